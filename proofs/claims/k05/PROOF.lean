import PyProof.Rows.All
import Wide.All
import OpenK.AllK
import Wide.FinOn
import HandS.ForMost
import HandS.Wide
import HandS.HeadHook1
import HandS.TupAny
import HandS.SortInts
import PyProof.Rows.RuleB_pow
import HandS.Property
import HandS.Defaults
import HandS.EndBits
import HandS.HeadEnd
import PyProof.ReprRoads
import HandS.IsInst
import HandS.Iter
import HandS.Codes
import HandS.Words
import HandS.Head0
import HandS.Head1
import HandS.Head2
import HandS.HeadHook2
import HandS.Ends
import PySem.Challenge.RW_nestsums_k05_values_on_long_rows
set_option Elab.async false
set_option linter.all false
set_option maxRecDepth 100000
set_option maxHeartbeats 1000000
/-! DV1: values as data. D is data without a heap; a slot holds data that is frozen (fz) or a list, dict, instance that this frame alone may change (ow). A reading (TE, TS of HandS) is followed by a plain function on environments. -/
namespace DV
open PySem PySem.Spec PyProof.Rows L2
abbrev Fr := PySem.W.Frag

/-- data -/
inductive D where
  | non | bl (b : Bool) | int (i : Int) | str (s : Str)
  | lst (l : List D) | tup (l : List D)
  | dK (l : List (Key × D)) | dT (l : List (List Key × D))
  | ins (c : Str) (l : List (Str × D))
  | scr (l : List Int)
deriving Inhabited

mutual
/-- the value v is the data d, in the frozen part G of the heap -/
inductive Rep (K : Fr) (G : Hp) : V → D → Prop
  | non : Rep K G .non .non
  | bl (b : Bool) : Rep K G (.bl b) (.bl b)
  | int (i : Int) : Rep K G (.int i) (.int i)
  | str (x : Str) : Rep K G (.str x) (.str x)
  | lst {a : Addr} {xs : List V} {ds : List D} (h : G a = some (.lst xs)) (r : Reps K G xs ds) : Rep K G (.ref a) (.lst ds)
  | tup {a : Addr} {xs : List V} {ds : List D} (h : G a = some (.tup xs)) (r : Reps K G xs ds) : Rep K G (.ref a) (.tup ds)
  | dK {a : Addr} {kvs : List (Key × V)} {l : List (Key × D)} (h : Rd G a (.dK kvs)) (k : kvs.map (·.1) = l.map (·.1)) (r : Reps K G (kvs.map (·.2)) (l.map (·.2))) : Rep K G (.ref a) (.dK l)
  | dT {a : Addr} {kvs : List (List Key × V)} {l : List (List Key × D)} (h : Rd G a (.dT kvs)) (k : kvs.map (·.1) = l.map (·.1)) (r : Reps K G (kvs.map (·.2)) (l.map (·.2))) : Rep K G (.ref a) (.dT l)
  | ins {a C dx : Addr} {fs : List (Str × V)} {c : Str} {l : List (Str × D)} (h : G a = some (.ins C dx fs)) (hc : C = He.ga K c) (k : fs.map (·.1) = l.map (·.1)) (r : Reps K G (fs.map (·.2)) (l.map (·.2))) : Rep K G (.ref a) (.ins c l)
  | scr {a : Addr} {l : List Int} (h : SqL K G a (l.map V.int)) : Rep K G (.ref a) (.scr l)
inductive Reps (K : Fr) (G : Hp) : List V → List D → Prop
  | nil : Reps K G [] []
  | cons {v : V} {vs : List V} {d : D} {ds : List D} : Rep K G v d → Reps K G vs ds → Reps K G (v :: vs) (d :: ds)
end

/-- what a frozen object may become: a dict may be held still -/
inductive Kp : HO → HO → Prop
  | refl (o : HO) : Kp o o
  | dK (w : Obj) (kvs : List (Key × V)) : Kp (.dK kvs) (.frz w (.dK kvs))
  | dT (w : Obj) (kvs : List (List Key × V)) : Kp (.dT kvs) (.frz w (.dT kvs))
theorem Kp.trans {a b c : HO} (h : Kp a b) (g : Kp b c) : Kp a c := by
  cases h with
  | refl => exact g
  | dK w kvs => cases g; exact .dK w kvs
  | dT w kvs => cases g; exact .dT w kvs
/-- what frozen data leans on stays -/
structure Le (K : Fr) (G G' : Hp) : Prop where
  lst : ∀ a xs, G a = some (.lst xs) → G' a = some (.lst xs)
  tup : ∀ a xs, G a = some (.tup xs) → G' a = some (.tup xs)
  dK : ∀ a kvs, Rd G a (.dK kvs) → Rd G' a (.dK kvs)
  dT : ∀ a kvs, Rd G a (.dT kvs) → Rd G' a (.dT kvs)
  ins : ∀ a C dx fs, G a = some (.ins C dx fs) → G' a = some (.ins C dx fs)
  scr : ∀ a xs, Rd G a (.lst xs) → Rd G' a (.lst xs)
theorem Le.refl {K : Fr} {G : Hp} : Le K G G := ⟨fun _ _ h => h, fun _ _ h => h, fun _ _ h => h, fun _ _ h => h, fun _ _ _ _ h => h, fun _ _ h => h⟩
theorem Le.trans {K : Fr} {A B C : Hp} (p : Le K A B) (q : Le K B C) : Le K A C :=
  ⟨fun a x h => q.lst a x (p.lst a x h), fun a x h => q.tup a x (p.tup a x h), fun a x h => q.dK a x (p.dK a x h), fun a x h => q.dT a x (p.dT a x h), fun a b c d h => q.ins a b c d (p.ins a b c d h), fun a x h => q.scr a x (p.scr a x h)⟩
theorem rd_up {G G' : Hp} (s : ∀ b o, G b = some o → G' b = some o) {a : Addr} {u : HO} (h : Rd G a u) : Rd G' a u := by
  rcases h with h | ⟨o, h⟩
  · exact .inl (s _ _ h)
  · exact .inr ⟨o, s _ _ h⟩
theorem rd_kp {G G' : Hp} (s : ∀ b o, G b = some o → ∃ o', G' b = some o' ∧ Kp o o') {a : Addr} {u : HO} (h : Rd G a u) (hu : (∃ xs, u = .tup xs) ∨ (∃ kvs, u = .dK kvs) ∨ ∃ kvs, u = .dT kvs) : Rd G' a u := by
  rcases h with h | ⟨o, h⟩
  · obtain ⟨o', h1, h2⟩ := s _ _ h
    cases h2 with
    | refl => exact .inl h1
    | dK w kvs => exact .inr ⟨w, h1⟩
    | dT w kvs => exact .inr ⟨w, h1⟩
  · obtain ⟨o', h1, h2⟩ := s _ _ h
    cases h2 with
    | refl => exact .inr ⟨o, h1⟩
theorem Le.ofK {K : Fr} {G G' : Hp} (s : ∀ b o, G b = some o → ∃ o', G' b = some o' ∧ Kp o o') : Le K G G' where
  lst := fun a x h => by obtain ⟨o', h1, h2⟩ := s _ _ h; cases h2; exact h1
  tup := fun a x h => by obtain ⟨o', h1, h2⟩ := s _ _ h; cases h2; exact h1
  dK := fun a x h => rd_kp s h (.inr (.inl ⟨_, rfl⟩))
  dT := fun a x h => rd_kp s h (.inr (.inr ⟨_, rfl⟩))
  ins := fun a C dx fs h => by obtain ⟨o', h1, h2⟩ := s _ _ h; cases h2; exact h1
  scr := fun a xs h => by
    rcases h with h | ⟨o, h⟩
    · obtain ⟨o', h1, h2⟩ := s _ _ h; cases h2; exact .inl h1
    · obtain ⟨o', h1, h2⟩ := s _ _ h; cases h2; exact .inr ⟨o, h1⟩
theorem Le.of {K : Fr} {G G' : Hp} (s : ∀ b o, G b = some o → G' b = some o) : Le K G G' := .ofK fun b o h => ⟨o, s b o h, .refl o⟩
mutual
theorem Rep.le {K : Fr} {G G' : Hp} (s : Le K G G') : ∀ {v : V} {d : D}, Rep K G v d → Rep K G' v d
  | _, _, .non => .non
  | _, _, .bl b => .bl b
  | _, _, .int i => .int i
  | _, _, .str x => .str x
  | _, _, .lst h r => .lst (s.lst _ _ h) (Reps.le s r)
  | _, _, .tup h r => .tup (s.tup _ _ h) (Reps.le s r)
  | _, _, .dK h k r => .dK (s.dK _ _ h) k (Reps.le s r)
  | _, _, .dT h k r => .dT (s.dT _ _ h) k (Reps.le s r)
  | _, _, .ins h c k r => .ins (s.ins _ _ _ _ h) c k (Reps.le s r)
  | _, _, .scr h => .scr (h.elim (fun h => .inl (s.scr _ _ h)) .inr)
theorem Reps.le {K : Fr} {G G' : Hp} (s : Le K G G') : ∀ {vs : List V} {ds : List D}, Reps K G vs ds → Reps K G' vs ds
  | _, _, .nil => .nil
  | _, _, .cons h t => .cons (Rep.le s h) (Reps.le s t)
end
section
variable {K : Fr} {G : Hp}
theorem Reps.length {vs : List V} : ∀ {ds : List D}, Reps K G vs ds → vs.length = ds.length := by
  induction vs with
  | nil => intro ds h; cases h; rfl
  | cons v vs ih => intro ds h; cases h with | cons _ t => simp [ih t]
theorem Reps.get {vs : List V} : ∀ {ds : List D} {i : Nat} {d : D}, Reps K G vs ds → ds[i]? = some d → ∃ v, vs[i]? = some v ∧ Rep K G v d := by
  induction vs with
  | nil => intro ds i d h e; cases h; simp at e
  | cons v vs ih =>
    intro ds i d h e
    cases h with
    | cons r t =>
      cases i with
      | zero => simp at e; subst e; exact ⟨v, by simp, r⟩
      | succ i => simp at e; obtain ⟨w, h1, h2⟩ := ih t e; exact ⟨w, by simpa using h1, h2⟩
theorem Reps.append {vs : List V} : ∀ {ws : List V} {ds es : List D}, Reps K G vs ds → Reps K G ws es → Reps K G (vs ++ ws) (ds ++ es) := by
  induction vs with
  | nil => intro ws ds es h t; cases h; simpa using t
  | cons v vs ih => intro ws ds es h t; cases h with | cons r u => exact .cons r (ih u t)
theorem Reps.set {vs : List V} : ∀ {ds : List D} {i : Nat} {v : V} {d : D}, Reps K G vs ds → Rep K G v d → Reps K G (vs.set i v) (ds.set i d) := by
  induction vs with
  | nil => intro ds i v d h r; cases h; simpa using Reps.nil
  | cons w vs ih =>
    intro ds i v d h r
    cases h with
    | cons q t =>
      cases i with
      | zero => exact .cons r t
      | succ i => exact .cons q (ih t r)
theorem Reps.take {vs : List V} : ∀ {ds : List D} (n : Nat), Reps K G vs ds → Reps K G (vs.take n) (ds.take n) := by
  induction vs with
  | nil => intro ds n h; cases h; simpa using Reps.nil
  | cons w vs ih =>
    intro ds n h
    cases h with
    | cons q t =>
      cases n with
      | zero => exact .nil
      | succ n => exact .cons q (ih n t)
theorem Reps.drop {vs : List V} : ∀ {ds : List D} (n : Nat), Reps K G vs ds → Reps K G (vs.drop n) (ds.drop n) := by
  induction vs with
  | nil => intro ds n h; cases h; simpa using Reps.nil
  | cons w vs ih =>
    intro ds n h
    cases h with
    | cons q t =>
      cases n with
      | zero => exact .cons q t
      | succ n => exact ih n t
theorem Reps.of_get {vs : List V} : ∀ {ds : List D}, vs.length = ds.length → (∀ (i : Nat) (v : V) (d : D), vs[i]? = some v → ds[i]? = some d → Rep K G v d) → Reps K G vs ds := by
  induction vs with
  | nil => intro ds h _; cases ds with | nil => exact .nil | cons => simp at h
  | cons v vs ih =>
    intro ds h g
    cases ds with
    | nil => simp at h
    | cons d ds => exact .cons (g 0 v d (by simp) (by simp)) (ih (by simpa using h) fun i w e h1 h2 => g (i + 1) w e (by simpa using h1) (by simpa using h2))
theorem Reps.ints : ∀ {ns : List Int} {vs : List V}, Reps K G vs (ns.map D.int) → vs = ns.map V.int
  | [], vs, h => by cases h; rfl
  | n :: ns, vs, h => by
    cases h with
    | cons r t => cases r; rw [Reps.ints t]; rfl
theorem Reps.of_ints : ∀ {ns : List Int}, Reps K G (ns.map V.int) (ns.map D.int)
  | [] => .nil
  | n :: ns => .cons (.int n) Reps.of_ints
theorem Reps.bls : ∀ {ns : List Bool} {vs : List V}, Reps K G vs (ns.map D.bl) → vs = ns.map V.bl
  | [], vs, h => by cases h; rfl
  | n :: ns, vs, h => by
    cases h with
    | cons r t => cases r; rw [Reps.bls t]; rfl
end

/-! ### the heap in two parts -/
def mask (U : Addr → Bool) (H : Hp) : Hp := fun b => if U b = true then none else H b
theorem mask_of {U : Addr → Bool} {H : Hp} {b : Addr} (h : U b = false) : mask U H b = H b := by unfold mask; rw [h]; rfl
theorem mask_some {U : Addr → Bool} {H : Hp} {b : Addr} {o : HO} (h : mask U H b = some o) : U b = false ∧ H b = some o := by
  unfold mask at h
  cases e : U b with
  | true => rw [e] at h; simp at h
  | false => rw [e] at h; exact ⟨rfl, by simpa using h⟩
theorem mask_le {U : Addr → Bool} {H : Hp} {K : Fr} : Le K (mask U H) H := .of fun b o h => (mask_some h).2
/-- an owned object at p and what it holds -/
def RepO (K : Fr) (U : Addr → Bool) (H : Hp) (p : Addr) : D → Prop
  | .lst ds => ∃ xs, H p = some (.lst xs) ∧ Reps K (mask U H) xs ds
  | .dK l => ∃ kvs, H p = some (.dK kvs) ∧ kvs.map (·.1) = l.map (·.1) ∧ Reps K (mask U H) (kvs.map (·.2)) (l.map (·.2))
  | .dT l => ∃ kvs, H p = some (.dT kvs) ∧ kvs.map (·.1) = l.map (·.1) ∧ Reps K (mask U H) (kvs.map (·.2)) (l.map (·.2))
  | .ins c l => ∃ dx fs, H p = some (.ins (He.ga K c) dx fs) ∧ fs.map (·.1) = l.map (·.1) ∧ Reps K (mask U H) (fs.map (·.2)) (l.map (·.2))
  | _ => False
/-- readable: frozen, or an owned object -/
def RepB (K : Fr) (U : Addr → Bool) (H : Hp) (v : V) (d : D) : Prop := Rep K (mask U H) v d ∨ ∃ p, v = .ref p ∧ RepO K U H p d
section
variable {K : Fr} {U U' : Addr → Bool} {H H' : Hp} {p : Addr} {d : D} {v : V}
theorem RepO.le (s : Le K (mask U H) (mask U' H')) (e : H' p = H p) (h : RepO K U H p d) : RepO K U' H' p d := by
  cases d <;> simp only [RepO] at h ⊢
  · obtain ⟨xs, h1, h2⟩ := h; exact ⟨xs, e.trans h1, h2.le s⟩
  · obtain ⟨xs, h1, h3, h2⟩ := h; exact ⟨xs, e.trans h1, h3, h2.le s⟩
  · obtain ⟨xs, h1, h3, h2⟩ := h; exact ⟨xs, e.trans h1, h3, h2.le s⟩
  · obtain ⟨x, xs, h1, h3, h2⟩ := h; exact ⟨x, xs, e.trans h1, h3, h2.le s⟩
theorem RepO.some (h : RepO K U H p d) : H p ≠ none := by
  intro e
  cases d <;> simp only [RepO] at h
  · obtain ⟨xs, h1, h2⟩ := h; rw [e] at h1; cases h1
  · obtain ⟨xs, h1, h2⟩ := h; rw [e] at h1; cases h1
  · obtain ⟨xs, h1, h2⟩ := h; rw [e] at h1; cases h1
  · obtain ⟨x, xs, h1, h2⟩ := h; rw [e] at h1; cases h1
/-- an owned object that is no longer in U is frozen data -/
theorem RepO.frozen (h : RepO K U H p d) (s : Le K (mask U H) (mask U' H)) (hu : U' p = false) : Rep K (mask U' H) (.ref p) d := by
  cases d <;> simp only [RepO] at h
  · obtain ⟨xs, h1, h2⟩ := h; exact .lst ((mask_of hu).trans h1) (h2.le s)
  · obtain ⟨xs, h1, h3, h2⟩ := h; exact .dK (.inl ((mask_of hu).trans h1)) h3 (h2.le s)
  · obtain ⟨xs, h1, h3, h2⟩ := h; exact .dT (.inl ((mask_of hu).trans h1)) h3 (h2.le s)
  · obtain ⟨x, xs, h1, h3, h2⟩ := h; exact .ins ((mask_of hu).trans h1) rfl h3 (h2.le s)
theorem RepB.lst {ds : List D} (h : RepB K U H v (.lst ds)) : ∃ a xs, v = .ref a ∧ H a = .some (.lst xs) ∧ Reps K (mask U H) xs ds := by
  rcases h with h | ⟨p, rfl, xs, h1, h2⟩
  · cases h with | lst h r => exact ⟨_, _, rfl, (mask_some h).2, r⟩
  · exact ⟨p, xs, rfl, h1, h2⟩
theorem RepB.tup {ds : List D} (h : RepB K U H v (.tup ds)) : ∃ a xs, v = .ref a ∧ H a = .some (.tup xs) ∧ Reps K (mask U H) xs ds := by
  rcases h with h | ⟨p, rfl, h1⟩
  · cases h with | tup h r => exact ⟨_, _, rfl, (mask_some h).2, r⟩
  · exact h1.elim
theorem RepB.int {i : Int} (h : RepB K U H v (.int i)) : v = .int i := by
  rcases h with h | ⟨p, rfl, h1⟩
  · cases h; rfl
  · exact h1.elim
theorem RepB.bl {i : Bool} (h : RepB K U H v (.bl i)) : v = .bl i := by
  rcases h with h | ⟨p, rfl, h1⟩
  · cases h; rfl
  · exact h1.elim
theorem RepB.str {i : Str} (h : RepB K U H v (.str i)) : v = .str i := by
  rcases h with h | ⟨p, rfl, h1⟩
  · cases h; rfl
  · exact h1.elim
theorem RepB.scr {l : List Int} (h : RepB K U H v (.scr l)) : ∃ a, v = .ref a ∧ SqL K H a (l.map V.int) := by
  rcases h with h | ⟨p, rfl, h1⟩
  · cases h with | scr h => exact ⟨_, rfl, h.elim (fun h => .inl (rd_up (fun b o e => (mask_some e).2) h)) .inr⟩
  · exact h1.elim
theorem RepB.non (h : RepB K U H v .non) : v = .non := by
  rcases h with h | ⟨p, rfl, h1⟩
  · cases h; rfl
  · exact h1.elim
theorem RepB.dT {l : List (List Key × D)} (h : RepB K U H v (.dT l)) : ∃ a kvs, v = .ref a ∧ Rd H a (.dT kvs) ∧ kvs.map (·.1) = l.map (·.1) ∧ Reps K (mask U H) (kvs.map (·.2)) (l.map (·.2)) := by
  rcases h with h | ⟨p, rfl, kvs, h1, h2, h3⟩
  · cases h with | dT h k r => exact ⟨_, _, rfl, rd_up (fun b o e => (mask_some e).2) h, k, r⟩
  · exact ⟨p, kvs, rfl, .inl h1, h2, h3⟩
theorem RepB.dK {l : List (Key × D)} (h : RepB K U H v (.dK l)) : ∃ a kvs, v = .ref a ∧ Rd H a (.dK kvs) ∧ kvs.map (·.1) = l.map (·.1) ∧ Reps K (mask U H) (kvs.map (·.2)) (l.map (·.2)) := by
  rcases h with h | ⟨p, rfl, kvs, h1, h2, h3⟩
  · cases h with | dK h k r => exact ⟨_, _, rfl, rd_up (fun b o e => (mask_some e).2) h, k, r⟩
  · exact ⟨p, kvs, rfl, .inl h1, h2, h3⟩
theorem RepB.ins {c : Str} {l : List (Str × D)} (h : RepB K U H v (.ins c l)) : ∃ a dx fs, v = .ref a ∧ H a = .some (.ins (He.ga K c) dx fs) ∧ fs.map (·.1) = l.map (·.1) ∧ Reps K (mask U H) (fs.map (·.2)) (l.map (·.2)) := by
  rcases h with h | ⟨p, rfl, dx, fs, h1, h2, h3⟩
  · cases h with | ins h hc k r => subst hc; exact ⟨_, _, _, rfl, (mask_some h).2, k, r⟩
  · exact ⟨p, dx, fs, rfl, h1, h2, h3⟩
end

/-! ### environments and steps -/
/-- a slot's content: frozen data; an owned object (x: the number of the caller's object that it is, if it is one) -/
inductive L where
  | fz (d : D) | ow (x : Option Nat) (d : D)
deriving Inhabited
def L.d : L → D
  | .fz d => d
  | .ow _ d => d
abbrev Rho := List (Option L)
/-- owned by a slot -/
def Own (ρ : Rho) (σ : L2.St) (b : Addr) : Prop := ∃ (i : Nat) (x : Option Nat) (d : D), ρ[i]? = some (some (L.ow x d)) ∧ σ[i]? = some (some (V.ref b))
/-- one slot -/
def SlotOk (K : Fr) (e : List Addr) (B : Addr → Prop) (U : Addr → Bool) (H : Hp) (v : V) : L → Prop
  | .fz d => Rep K (mask U H) v d
  | .ow x d => ∃ p, v = .ref p ∧ U p = true ∧ RepO K U H p d ∧ match x with
    | none => ¬ B p
    | some k => e[k]? = some p
/-- the environment ρ is what the slots σ hold in H; U: what is owned by some frame; e: the callers' objects that may be changed here; B: what stood at the entry -/
structure Iv (K : Fr) (e : List Addr) (B : Addr → Prop) (ρ : Rho) (U : Addr → Bool) (σ : L2.St) (H : Hp) : Prop where
  len : ρ.length = σ.length
  slot : ∀ (i : Nat) (l : L), ρ[i]? = some (some l) → ∃ v, σ[i]? = some (some v) ∧ SlotOk K e B U H v l
  apart : ∀ (i j : Nat) (x y : Option Nat) (d d' : D) (p : Addr), ρ[i]? = some (some (L.ow x d)) → ρ[j]? = some (some (L.ow y d')) → σ[i]? = some (some (V.ref p)) → σ[j]? = some (some (V.ref p)) → i = j
  dom : ∀ p, U p = true → H p ≠ none
  bdom : ∀ p, B p → H p ≠ none
/-- a step: frozen things stay, what others own stays -/
structure Stp (W : Addr → Prop) (U : Addr → Bool) (H : Hp) (U' : Addr → Bool) (H' : Hp) : Prop where
  frz : ∀ b o, U b = false → H b = some o → U' b = false ∧ ∃ o', H' b = some o' ∧ Kp o o'
  frm : ∀ b, U b = true → ¬ W b → U' b = true ∧ H' b = H b
  dm : ∀ b, H b ≠ none → H' b ≠ none
theorem Stp.refl {W : Addr → Prop} {U : Addr → Bool} {H : Hp} : Stp W U H U H := ⟨fun _ o a b => ⟨a, o, b, .refl o⟩, fun _ a _ => ⟨a, rfl⟩, fun _ h => h⟩
theorem Stp.trans {W W1 : Addr → Prop} {U U1 U2 : Addr → Bool} {H H1 H2 : Hp} (hd : ∀ p, U p = true → H p ≠ none) (a : Stp W U H U1 H1) (b : Stp W1 U1 H1 U2 H2) (h : ∀ p, W1 p → W p ∨ H p = none) : Stp W U H U2 H2 where
  frz := fun c o x y => by
    obtain ⟨z, o1, w, k⟩ := a.frz c o x y
    obtain ⟨z2, o2, w2, k2⟩ := b.frz c o1 z w
    exact ⟨z2, o2, w2, k.trans k2⟩
  frm := fun c x y => by
    obtain ⟨z, w⟩ := a.frm c x y
    obtain ⟨z2, w2⟩ := b.frm c z fun q => (h c q).elim y (hd c x)
    exact ⟨z2, w2.trans w⟩
  dm := fun c x => b.dm c (a.dm c x)
theorem Stp.weak {W W' : Addr → Prop} {U U' : Addr → Bool} {H H' : Hp} (a : Stp W U H U' H') (h : ∀ p, U p = true → W p → W' p) : Stp W' U H U' H' :=
  ⟨a.frz, fun b x y => a.frm b x fun z => y (h b x z), a.dm⟩
theorem Stp.le {W : Addr → Prop} {U U' : Addr → Bool} {H H' : Hp} {K : Fr} (a : Stp W U H U' H') : Le K (mask U H) (mask U' H') := .ofK fun b o h => by
  obtain ⟨x, y⟩ := mask_some h
  obtain ⟨z, o', w, k⟩ := a.frz b o x y
  exact ⟨o', by rw [mask_of z, w], k⟩
/-- behind an expression: σ stays -/
structure EPost (K : Fr) (e : List Addr) (B : Addr → Prop) (ρ : Rho) (U : Addr → Bool) (σ : L2.St) (H : Hp) (ρ' : Rho) (U' : Addr → Bool) (H' : Hp) : Prop where
  stp : Stp (Own ρ σ) U H U' H'
  inv : Iv K e B ρ' U' σ H'
  own : ∀ b, Own ρ' σ b → Own ρ σ b
theorem EPost.refl {K : Fr} {e : List Addr} {B : Addr → Prop} {ρ : Rho} {U : Addr → Bool} {σ : L2.St} {H : Hp} (I : Iv K e B ρ U σ H) : EPost K e B ρ U σ H ρ U H := ⟨.refl, I, fun _ h => h⟩
theorem EPost.trans {K : Fr} {e : List Addr} {B : Addr → Prop} {ρ ρ1 ρ2 : Rho} {U U1 U2 : Addr → Bool} {σ : L2.St} {H H1 H2 : Hp} (I : Iv K e B ρ U σ H) (a : EPost K e B ρ U σ H ρ1 U1 H1) (b : EPost K e B ρ1 U1 σ H1 ρ2 U2 H2) : EPost K e B ρ U σ H ρ2 U2 H2 :=
  ⟨a.stp.trans I.dom b.stp fun p h => .inl (a.own p h), b.inv, fun p h => a.own p (b.own p h)⟩
/-- behind a statement -/
structure SPost (K : Fr) (e : List Addr) (B : Addr → Prop) (ρ : Rho) (U : Addr → Bool) (σ : L2.St) (H : Hp) (ρ' : Rho) (U' : Addr → Bool) (σ' : L2.St) (H' : Hp) : Prop where
  stp : Stp (Own ρ σ) U H U' H'
  inv : Iv K e B ρ' U' σ' H'
  own : ∀ b, Own ρ' σ' b → Own ρ σ b ∨ H b = none
theorem SPost.refl {K : Fr} {e : List Addr} {B : Addr → Prop} {ρ : Rho} {U : Addr → Bool} {σ : L2.St} {H : Hp} (I : Iv K e B ρ U σ H) : SPost K e B ρ U σ H ρ U σ H := ⟨.refl, I, fun _ h => .inl h⟩
theorem SPost.of {K : Fr} {e : List Addr} {B : Addr → Prop} {ρ ρ' : Rho} {U U' : Addr → Bool} {σ : L2.St} {H H' : Hp} (a : EPost K e B ρ U σ H ρ' U' H') : SPost K e B ρ U σ H ρ' U' σ H' := ⟨a.stp, a.inv, fun b h => .inl (a.own b h)⟩
theorem SPost.trans {K : Fr} {e : List Addr} {B : Addr → Prop} {ρ ρ1 ρ2 : Rho} {U U1 U2 : Addr → Bool} {σ σ1 σ2 : L2.St} {H H1 H2 : Hp} (I : Iv K e B ρ U σ H) (a : SPost K e B ρ U σ H ρ1 U1 σ1 H1) (b : SPost K e B ρ1 U1 σ1 H1 ρ2 U2 σ2 H2) : SPost K e B ρ U σ H ρ2 U2 σ2 H2 :=
  ⟨a.stp.trans I.dom b.stp a.own, b.inv, fun p h => (b.own p h).elim (a.own p) fun q => .inr (Classical.byContradiction fun z => a.stp.dm p z q)⟩

/-! ### operands -/
/-- what an expression gives: frozen data; the object of an owned slot, not moved; a new object that nobody holds -/
inductive Op where
  | val (d : D) | slot (i : Nat) | own (d : D)
deriving Inhabited
def Op.get (ρ : Rho) : Op → Option D
  | .val d => some d
  | .own d => some d
  | .slot i => match ρ[i]? with
    | some (some l) => some l.d
    | _ => none
/-- H0: the heap ahead of the expression -/
def ROp (K : Fr) (ρ : Rho) (U : Addr → Bool) (σ : L2.St) (H H0 : Hp) (v : V) : Op → Prop
  | .val d => Rep K (mask U H) v d
  | .slot i => σ[i]? = some (some v)
  | .own d => ∃ p, v = .ref p ∧ U p = true ∧ RepO K U H p d ∧ ¬ Own ρ σ p ∧ H0 p = none
section
variable {K : Fr} {e : List Addr} {B : Addr → Prop} {ρ ρ' ρ1 ρ2 : Rho} {U U' U1 U2 : Addr → Bool} {σ : L2.St} {H H' H1 H2 H0 H00 : Hp} {v : V} {o : Op} {d : D}
theorem SlotOk.b {l : L} (h : SlotOk K e B U H v l) : RepB K U H v l.d := by
  cases l with
  | fz d => exact .inl h
  | ow x d => obtain ⟨p, rfl, _, h, _⟩ := h; exact .inr ⟨p, rfl, h⟩
theorem ROp.b (I : Iv K e B ρ U σ H) (h : ROp K ρ U σ H H0 v o) (g : o.get ρ = some d) : RepB K U H v d := by
  cases o with
  | val x => simp only [Op.get, Option.some.injEq] at g; subst g; exact .inl h
  | own x => simp only [Op.get, Option.some.injEq] at g; subst g; obtain ⟨p, rfl, _, h, _⟩ := h; exact .inr ⟨p, rfl, h⟩
  | slot i =>
    simp only [Op.get] at g
    split at g
    · rename_i l hl
      cases g
      obtain ⟨w, hw, s⟩ := I.slot i l hl
      have h' : σ[i]? = some (some v) := h
      rw [h'] at hw; cases hw
      exact s.b
    · cases g
theorem ROp.step (h : ROp K ρ1 U1 σ H1 H0 v o) (P : EPost K e B ρ1 U1 σ H1 ρ2 U2 H2) : ROp K ρ2 U2 σ H2 H0 v o := by
  cases o with
  | val x => exact Rep.le P.stp.le h
  | slot i => exact h
  | own x =>
    obtain ⟨p, rfl, hu, h, hn, h0⟩ := h
    obtain ⟨a, b⟩ := P.stp.frm p hu hn
    exact ⟨p, rfl, a, h.le P.stp.le b, fun z => hn (P.own p z), h0⟩
theorem ROp.back (h : ROp K ρ U σ H H0 v o) (s : ∀ b, H00 b ≠ none → H0 b ≠ none) : ROp K ρ U σ H H00 v o := by
  cases o with
  | val x => exact h
  | slot i => exact h
  | own x =>
    obtain ⟨p, rfl, hu, h, hn, h0⟩ := h
    exact ⟨p, rfl, hu, h, hn, Classical.byContradiction fun z => s p z h0⟩
end
/-! ### judgements over readings -/
abbrev FE := Rho → Option (Op × Rho)
abbrev FF := Rho → Option (D × Rho)
abbrev FA := Rho → Option (List Op × Rho)
/-- an expression -/
def EJ (K : Fr) (te : TE) (f : FE) : Prop := ∀ ρ o ρ', f ρ = some (o, ρ') → ∀ e B U σ H, Iv K e B ρ U σ H → ∀ Q : VK,
  (∀ v U' H', EPost K e B ρ U σ H ρ' U' H' → ROp K ρ' U' σ H' H v o → Q v H') → te σ H Q
/-- an expression whose value is frozen -/
def FJ (K : Fr) (te : TE) (f : FF) : Prop := ∀ ρ d ρ', f ρ = some (d, ρ') → ∀ e B U σ H, Iv K e B ρ U σ H → ∀ Q : VK,
  (∀ v U' H', EPost K e B ρ U σ H ρ' U' H' → Rep K (mask U' H') v d → Q v H') → te σ H Q
/-- arguments -/
inductive ROps (K : Fr) (ρ : Rho) (U : Addr → Bool) (σ : L2.St) (H H0 : Hp) : List V → List Op → Prop
  | nil : ROps K ρ U σ H H0 [] []
  | cons {v : V} {vs : List V} {o : Op} {os : List Op} : ROp K ρ U σ H H0 v o → ROps K ρ U σ H H0 vs os → ROps K ρ U σ H H0 (v :: vs) (o :: os)
def AJ (K : Fr) (ta : TA) (f : FA) : Prop := ∀ ρ os ρ', f ρ = some (os, ρ') → ∀ e B U σ H, Iv K e B ρ U σ H → ∀ Q : List V → Hp → Prop,
  (∀ vs U' H', EPost K e B ρ U σ H ρ' U' H' → ROps K ρ' U' σ H' H vs os → Q vs H') → ta σ H Q
/-- tests -/
abbrev FT := Rho → Option (Bool × Rho)
def TJ (K : Fr) (tt : TT) (f : FT) : Prop := ∀ ρ b ρ', f ρ = some (b, ρ') → ∀ e B U σ H, Iv K e B ρ U σ H → ∀ Q : Bool → Hp → Prop,
  (∀ U' H', EPost K e B ρ U σ H ρ' U' H' → Q b H') → tt σ H Q
/-- statements -/
inductive Out where
  | nx (ρ : Rho) | ret (l : L) (ρ : Rho) | brk (ρ : Rho) | cnt (ρ : Rho)
abbrev FS := Rho → Option Out
def RetOk (K : Fr) (B : Addr → Prop) (U : Addr → Bool) (H : Hp) (v : V) : L → Prop
  | .fz d => Rep K (mask U H) v d
  | .ow _ d => ∃ p, v = .ref p ∧ U p = true ∧ RepO K U H p d ∧ ¬ B p
def Wants (K : Fr) (e : List Addr) (B : Addr → Prop) (ρ : Rho) (U : Addr → Bool) (σ : L2.St) (H : Hp) (N : Ends) : Out → Prop
  | .nx ρ' => ∀ U' σ' H', SPost K e B ρ U σ H ρ' U' σ' H' → N.nx σ' H'
  | .brk ρ' => ∀ U' σ' H', SPost K e B ρ U σ H ρ' U' σ' H' → N.bk σ' H'
  | .cnt ρ' => ∀ U' σ' H', SPost K e B ρ U σ H ρ' U' σ' H' → N.ct σ' H'
  | .ret l ρ' => ∀ v U' σ' H', SPost K e B ρ U σ H ρ' U' σ' H' → RetOk K B U' H' v l → N.rt v H'
def SJ (K : Fr) (ts : TS) (f : FS) : Prop := ∀ ρ o, f ρ = some o → ∀ e B U σ H, Iv K e B ρ U σ H → ∀ N : Ends, Wants K e B ρ U σ H N o → ts N σ H
/-- the same, behind a first step -/
theorem Wants.behind {K : Fr} {e : List Addr} {B : Addr → Prop} {ρ ρ1 : Rho} {U U1 : Addr → Bool} {σ σ1 : L2.St} {H H1 : Hp} {N : Ends} {o : Out} (I : Iv K e B ρ U σ H) (a : SPost K e B ρ U σ H ρ1 U1 σ1 H1) (w : Wants K e B ρ U σ H N o) : Wants K e B ρ1 U1 σ1 H1 N o := by
  cases o <;> simp only [Wants] at w ⊢
  · exact fun U' σ' H' p => w U' σ' H' (a.trans I p)
  · exact fun v U' σ' H' p => w v U' σ' H' (a.trans I p)
  · exact fun U' σ' H' p => w U' σ' H' (a.trans I p)
  · exact fun U' σ' H' p => w U' σ' H' (a.trans I p)
end DV

set_option Elab.async false
set_option linter.all false
set_option maxRecDepth 100000
set_option maxHeartbeats 1000000
namespace DV
open PySem PySem.Spec PyProof.Rows L2
section
variable {K : Fr} {e : List Addr} {B : Addr → Prop} {ρ ρ' ρ1 ρ2 : Rho} {U U' U1 U2 : Addr → Bool} {σ σ' : L2.St} {H H' H1 H2 H0 H00 : Hp} {v : V} {o : Op} {d : D}

/-! ### freezing, new things -/
def Udel (U : Addr → Bool) (p : Addr) : Addr → Bool := fun b => if b = p then false else U b
def Uadd (U : Addr → Bool) (p : Addr) : Addr → Bool := fun b => if b = p then true else U b
theorem udel_same {p : Addr} : Udel U p p = false := by simp [Udel]
theorem udel_ne {p b : Addr} (h : b ≠ p) : Udel U p b = U b := by simp [Udel, h]
theorem uadd_same {p : Addr} : Uadd U p p = true := by simp [Uadd]
theorem uadd_ne {p b : Addr} (h : b ≠ p) : Uadd U p b = U b := by simp [Uadd, h]
theorem udel_le {p : Addr} : Le K (mask U H) (mask (Udel U p) H) := .of fun b o h => by
  obtain ⟨x, y⟩ := mask_some h
  by_cases hb : b = p
  · subst hb; rw [mask_of udel_same]; exact y
  · rw [mask_of (by rw [udel_ne hb]; exact x)]; exact y
theorem Iv.own_u (I : Iv K e B ρ U σ H) {p : Addr} (h : Own ρ σ p) : U p = true := by
  obtain ⟨i, x, d, h1, h2⟩ := h
  obtain ⟨w, h3, q, h4, h5, _⟩ := I.slot i _ h1
  rw [h2] at h3; cases h3; cases h4; exact h5
/-- all slots at a state that only grew outside of them -/
theorem Iv.mono (I : Iv K e B ρ U σ H) (le : Le K (mask U H) (mask U' H')) (ho : ∀ b, Own ρ σ b → U' b = true ∧ H' b = H b) (dom : ∀ p, U' p = true → H' p ≠ none) (hd : ∀ b, H b ≠ none → H' b ≠ none) : Iv K e B ρ U' σ H' where
  len := I.len
  slot := fun i l h => by
    obtain ⟨v, h1, h2⟩ := I.slot i l h
    refine ⟨v, h1, ?_⟩
    cases l with
    | fz d => exact Rep.le le h2
    | ow x d =>
      obtain ⟨p, rfl, hu, hr, hx⟩ := h2
      obtain ⟨a, b⟩ := ho p ⟨i, x, d, h, h1⟩
      exact ⟨p, rfl, a, hr.le le b, hx⟩
  apart := I.apart
  dom := dom
  bdom := fun p h => hd p (I.bdom p h)
/-- setting a slot -/
theorem set_get {i j : Nat} {x : Option L} {l : L} (h : (ρ.set i x)[j]? = some (some l)) : (j = i ∧ x = some l ∧ i < ρ.length) ∨ (j ≠ i ∧ ρ[j]? = some (some l)) := by
  by_cases e : i = j
  · subst e
    by_cases hi : i < ρ.length
    · rw [List.getElem?_set_self hi] at h; exact .inl ⟨rfl, by simpa using h, hi⟩
    · rw [List.getElem?_eq_none (by simpa using hi)] at h; cases h
  · rw [List.getElem?_set_ne e] at h; exact .inr ⟨fun z => e z.symm, h⟩
theorem Iv.freeze (I : Iv K e B ρ U σ H) {i : Nat} {x : Option Nat} {p : Addr} (h : ρ[i]? = some (some (.ow x d))) (hp : σ[i]? = some (some (.ref p))) : EPost K e B ρ U σ H (ρ.set i (some (.fz d))) (Udel U p) H ∧ Rep K (mask (Udel U p) H) (.ref p) d := by
  obtain ⟨w, h1, q, h2, hu, hr, _⟩ := I.slot i _ h
  rw [hp] at h1; cases h1; cases h2
  have hf := hr.frozen udel_le udel_same (U' := Udel U p)
  have ho : Own ρ σ p := ⟨i, x, d, h, hp⟩
  refine ⟨⟨⟨fun b o h1 h2 => ⟨?_, o, h2, .refl o⟩, fun b h1 h2 => ⟨?_, rfl⟩, fun _ h => h⟩, ⟨by simpa using I.len, fun j l hj => ?_, fun j k a b c d' r hj hk => ?_, fun b hb => I.dom b ?_, I.bdom⟩, ?_⟩, hf⟩
  · by_cases hb : b = p
    · subst hb; exact udel_same
    · rw [udel_ne hb]; exact h1
  · by_cases hb : b = p
    · subst hb; exact absurd ho h2
    · rw [udel_ne hb]; exact h1
  · rcases set_get hj with ⟨rfl, e1, _⟩ | ⟨ne, hj⟩
    · cases e1; exact ⟨_, hp, hf⟩
    · obtain ⟨v, h3, h4⟩ := I.slot j l hj
      refine ⟨v, h3, ?_⟩
      cases l with
      | fz d => exact Rep.le udel_le h4
      | ow y d =>
        obtain ⟨r, rfl, hu', hr', hx⟩ := h4
        have rp : r ≠ p := fun z => ne (I.apart j i _ _ _ _ _ hj h h3 (by rw [z]; exact hp))
        exact ⟨r, rfl, by rw [udel_ne rp]; exact hu', hr'.le udel_le rfl, hx⟩
  · rcases set_get hj with ⟨_, e1, _⟩ | ⟨ne, hj⟩
    · cases e1
    · rcases set_get hk with ⟨_, e1, _⟩ | ⟨ne', hk⟩
      · cases e1
      · exact I.apart j k _ _ _ _ _ hj hk
  · by_cases hb2 : b = p
    · subst hb2; rw [udel_same] at hb; cases hb
    · rw [udel_ne hb2] at hb; exact hb
  · rintro b ⟨j, y, d', h3, h4⟩
    rcases set_get h3 with ⟨_, e1, _⟩ | ⟨ne, h3⟩
    · cases e1
    · exact ⟨j, y, d', h3, h4⟩
/-- an owned object that no slot holds is frozen -/
theorem EPost.freezeNew (P : EPost K e B ρ U σ H ρ1 U1 H1) {p : Addr} (hr : RepO K U1 H1 p d) (hn : ¬ Own ρ1 σ p) (h0 : H p = none) (dm : ∀ p, U p = true → H p ≠ none) : EPost K e B ρ U σ H ρ1 (Udel U1 p) H1 ∧ Rep K (mask (Udel U1 p) H1) (.ref p) d := by
  have hu0 : U p = false := by
    cases z : U p with
    | false => rfl
    | true => exact absurd h0 (dm p z)
  have hne : ∀ b, Own ρ1 σ b → b ≠ p := fun b h z => hn (z ▸ h)
  refine ⟨⟨⟨fun b o h1 h2 => ?_, fun b h1 h2 => ?_, P.stp.dm⟩, P.inv.mono udel_le (fun b hb => ⟨by rw [udel_ne (hne b hb)]; exact P.inv.own_u hb, rfl⟩) (fun b hb => P.inv.dom b ?_) fun _ h => h, P.own⟩, hr.frozen udel_le udel_same⟩
  · obtain ⟨x, y⟩ := P.stp.frz b o h1 h2
    refine ⟨?_, y⟩
    by_cases hb : b = p
    · subst hb; exact udel_same
    · rw [udel_ne hb]; exact x
  · obtain ⟨x, y⟩ := P.stp.frm b h1 h2
    refine ⟨?_, y⟩
    by_cases hb : b = p
    · subst hb; rw [hu0] at h1; cases h1
    · rw [udel_ne hb]; exact x
  · by_cases hb2 : b = p
    · subst hb2; rw [udel_same] at hb; cases hb
    · rw [udel_ne hb2] at hb; exact hb
/-- new things beside -/
structure Ext (U : Addr → Bool) (H : Hp) (U' : Addr → Bool) (H' : Hp) : Prop where
  keep : ∀ b o, H b = some o → H' b = some o ∧ U' b = U b
  dom : ∀ p, U' p = true → H' p ≠ none
theorem Ext.refl (h : ∀ p, U p = true → H p ≠ none) : Ext U H U H := ⟨fun _ _ h => ⟨h, rfl⟩, h⟩
theorem Ext.trans (a : Ext U H U1 H1) (b : Ext U1 H1 U2 H2) : Ext U H U2 H2 := ⟨fun c o h => by
  obtain ⟨x, y⟩ := a.keep c o h
  obtain ⟨z, w⟩ := b.keep c o x
  exact ⟨z, w.trans y⟩, b.dom⟩
theorem Ext.le (a : Ext U H U' H') : Le K (mask U H) (mask U' H') := .of fun b o h => by
  obtain ⟨x, y⟩ := mask_some h
  obtain ⟨z, w⟩ := a.keep b o y
  rw [mask_of (by rw [w]; exact x), z]
theorem some_ne {b : Addr} (h : H b ≠ none) : ∃ o, H b = some o := by
  cases e : H b with
  | none => exact absurd e h
  | some o => exact ⟨o, rfl⟩
theorem Ext.post (a : Ext U H U' H') (I : Iv K e B ρ U σ H) : EPost K e B ρ U σ H ρ U' H' := by
  refine ⟨⟨fun b o h1 h2 => ?_, fun b h1 _ => ?_, fun b h => ?_⟩, I.mono a.le (fun b hb => ?_) a.dom fun b h => ?_, fun _ h => h⟩
  · obtain ⟨x, y⟩ := a.keep b o h2
    exact ⟨y.trans h1, o, x, .refl o⟩
  · obtain ⟨o, ho⟩ := some_ne (I.dom b h1)
    obtain ⟨x, y⟩ := a.keep b o ho
    exact ⟨y.trans h1, x.trans ho.symm⟩
  · obtain ⟨o, ho⟩ := some_ne h
    rw [(a.keep b o ho).1]; simp
  · obtain ⟨o, ho⟩ := some_ne (I.dom b (I.own_u hb))
    obtain ⟨x, y⟩ := a.keep b o ho
    exact ⟨y.trans (I.own_u hb), x.trans ho.symm⟩
  · obtain ⟨o, ho⟩ := some_ne h
    rw [(a.keep b o ho).1]; simp
theorem Ext.new {p : Addr} {u : HO} (h : H p = none) (dm : ∀ p, U p = true → H p ≠ none) : Ext U H U (upd H p u) := by
  refine ⟨fun b o hb => ⟨?_, rfl⟩, fun b hb => ?_⟩
  · rw [upd_ne (ne_of_none hb h)]; exact hb
  · obtain ⟨o, ho⟩ := some_ne (dm b hb)
    rw [upd_ne (ne_of_none ho h), ho]; simp
theorem Ext.newU {p : Addr} {u : HO} (h : H p = none) (dm : ∀ p, U p = true → H p ≠ none) : Ext U H (Uadd U p) (upd H p u) := by
  refine ⟨fun b o hb => ⟨?_, ?_⟩, fun b hb => ?_⟩
  · rw [upd_ne (ne_of_none hb h)]; exact hb
  · exact uadd_ne (ne_of_none hb h)
  · by_cases hp : b = p
    · subst hp; rw [upd_same]; simp
    · rw [uadd_ne hp] at hb
      rw [upd_ne hp]; exact dm b hb
theorem u_new {p : Addr} (h : H p = none) (dm : ∀ p, U p = true → H p ≠ none) : U p = false := by
  cases z : U p with
  | false => rfl
  | true => exact absurd h (dm p z)
theorem le_new {p : Addr} {u : HO} (h : H p = none) : Le K (mask U H) (mask U (upd H p u)) := .of fun b o hb => by
  obtain ⟨x, y⟩ := mask_some hb
  rw [mask_of x, upd_ne (ne_of_none y h)]; exact y
theorem le_newU {p : Addr} {u : HO} (h : H p = none) : Le K (mask U H) (mask (Uadd U p) (upd H p u)) := .of fun b o hb => by
  obtain ⟨x, y⟩ := mask_some hb
  have ne := ne_of_none y h
  rw [mask_of (by rw [uadd_ne ne]; exact x), upd_ne ne]; exact y

/-- what an operation gives -/
def RRes (K : Fr) (U : Addr → Bool) (H H0 : Hp) (v : V) : Op → Prop
  | .val d => Rep K (mask U H) v d
  | .slot _ => False
  | .own d => ∃ p, v = .ref p ∧ U p = true ∧ RepO K U H p d ∧ H0 p = none
theorem RRes.op (h : RRes K U' H' H v o) (I : Iv K e B ρ U σ H) : ROp K ρ U' σ H' H v o := by
  cases o with
  | val d => exact h
  | slot i => exact h.elim
  | own d =>
    obtain ⟨p, rfl, hu, hr, h0⟩ := h
    exact ⟨p, rfl, hu, hr, fun z => I.dom p (I.own_u z) h0, h0⟩
/-- a new list, as an owned object -/
theorem RRes.lst {p : Addr} {xs : List V} {ds : List D} (h : H p = none) (r : Reps K (mask U H) xs ds) : RRes K (Uadd U p) (upd H p (.lst xs)) H (.ref p) (.own (.lst ds)) :=
  ⟨p, rfl, uadd_same, ⟨xs, upd_same, r.le (le_newU h)⟩, h⟩
theorem RRes.dT {p : Addr} {xs : List (List Key × V)} {ds : List (List Key × D)} (h : H p = none) (k : xs.map (·.1) = ds.map (·.1)) (r : Reps K (mask U H) (xs.map (·.2)) (ds.map (·.2))) : RRes K (Uadd U p) (upd H p (.dT xs)) H (.ref p) (.own (.dT ds)) :=
  ⟨p, rfl, uadd_same, ⟨xs, upd_same, k, r.le (le_newU h)⟩, h⟩
theorem RRes.dK {p : Addr} {xs : List (Key × V)} {ds : List (Key × D)} (h : H p = none) (k : xs.map (·.1) = ds.map (·.1)) (r : Reps K (mask U H) (xs.map (·.2)) (ds.map (·.2))) : RRes K (Uadd U p) (upd H p (.dK xs)) H (.ref p) (.own (.dK ds)) :=
  ⟨p, rfl, uadd_same, ⟨xs, upd_same, k, r.le (le_newU h)⟩, h⟩
/-- a new tuple -/
theorem RRes.tup {p : Addr} {xs : List V} {ds : List D} (h : H p = none) (dm : ∀ p, U p = true → H p ≠ none) (r : Reps K (mask U H) xs ds) : RRes K U (upd H p (.tup xs)) H (.ref p) (.val (.tup ds)) :=
  Rep.tup ((mask_of (u_new h dm)).trans upd_same) (r.le (le_new h))
theorem upd_rep {p : Addr} {u : HO} (h : H p = none) (r : Rep K (mask U H) v d) : Rep K (mask U (upd H p u)) v d := r.le (le_new h)
end

/-! ### operations by values -/
def Dm (U : Addr → Bool) (H : Hp) : Prop := ∀ p, U p = true → H p ≠ none
/-- two operands -/
def OJ2 (K : Fr) (r : R2) (g : D → D → Option Op) : Prop := ∀ dx dy o, g dx dy = some o → ∀ U H x y, Dm U H → RepB K U H x dx → RepB K U H y dy → ∀ Q : VK, (∀ v U' H', Ext U H U' H' → RRes K U' H' H v o → Q v H') → r x y H Q
def OJ1 (K : Fr) (r : V → Hp → VK → Prop) (g : D → Option Op) : Prop := ∀ dx o, g dx = some o → ∀ U H x, Dm U H → RepB K U H x dx → ∀ Q : VK, (∀ v U' H', Ext U H U' H' → RRes K U' H' H v o → Q v H') → r x H Q
inductive RepBs (K : Fr) (U : Addr → Bool) (H : Hp) : List V → List D → Prop
  | nil : RepBs K U H [] []
  | cons {v : V} {vs : List V} {d : D} {ds : List D} : RepB K U H v d → RepBs K U H vs ds → RepBs K U H (v :: vs) (d :: ds)
def CJ (K : Fr) (r : List V → Hp → VK → Prop) (g : List D → Option Op) : Prop := ∀ ds o, g ds = some o → ∀ U H vs, Dm U H → RepBs K U H vs ds → ∀ Q : VK, (∀ v U' H', Ext U H U' H' → RRes K U' H' H v o → Q v H') → r vs H Q

/-! ### environments' functions -/
def fC (d : D) : FE := fun ρ => some (.val d, ρ)
def fV (i : Nat) : FE := fun ρ => match ρ[i]? with
  | some (some (.fz d)) => some (.val d, ρ)
  | some (some (.ow _ _)) => some (.slot i, ρ)
  | _ => none
/-- the value, frozen -/
def frz : Op → Rho → Option (D × Rho)
  | .val d, ρ => some (d, ρ)
  | .own d, ρ => some (d, ρ)
  | .slot i, ρ => match ρ[i]? with
    | some (some (.fz d)) => some (d, ρ)
    | some (some (.ow none d)) => some (d, ρ.set i (some (.fz d)))
    | _ => none
def fF (f : FE) : FF := fun ρ => (f ρ).bind fun (o, ρ1) => frz o ρ1
def fO (f : FF) : FE := fun ρ => (f ρ).map fun (d, ρ1) => (.val d, ρ1)
def fOp2 (g : D → D → Option Op) (fa fb : FE) : FE := fun ρ => (fa ρ).bind fun (a, ρ1) => (fb ρ1).bind fun (b, ρ2) => (a.get ρ2).bind fun x => (b.get ρ2).bind fun y => (g x y).map fun o => (o, ρ2)
def fOp1 (g : D → Option Op) (fa : FE) : FE := fun ρ => (fa ρ).bind fun (a, ρ1) => (a.get ρ1).bind fun x => (g x).map fun o => (o, ρ1)
def gets (ρ : Rho) : List Op → Option (List D)
  | [] => some []
  | o :: os => (o.get ρ).bind fun d => (gets ρ os).map fun ds => d :: ds
def fCall (g : List D → Option Op) (fa : FA) : FE := fun ρ => (fa ρ).bind fun (os, ρ1) => (gets ρ1 os).bind fun ds => (g ds).map fun o => (o, ρ1)
def aNil : FA := fun ρ => some ([], ρ)
/-- an argument as it is (borrowed, or for the callee to change) -/
def aB (f : FE) (fr : FA) : FA := fun ρ => (f ρ).bind fun (o, ρ1) => (fr ρ1).map fun (os, ρ2) => (o :: os, ρ2)
/-- an argument that is frozen -/
def aF (f : FE) (fr : FA) : FA := fun ρ => (fF f ρ).bind fun (d, ρ1) => (fr ρ1).map fun (os, ρ2) => (.val d :: os, ρ2)
theorem bind_some {α β : Type} {o : Option α} {g : α → Option β} {b : β} (h : o.bind g = some b) : ∃ a, o = some a ∧ g a = some b := by
  cases o with
  | none => cases h
  | some a => exact ⟨a, rfl, h⟩
theorem map_some {α β : Type} {o : Option α} {g : α → β} {b : β} (h : o.map g = some b) : ∃ a, o = some a ∧ g a = b := by
  cases o with
  | none => cases h
  | some a => exact ⟨a, rfl, Option.some.inj h⟩
section
variable {K : Fr} {ta tb te : TE} {fa fb f : FE}
theorem ej_c {d : D} {v : V} (h : ∀ G, Rep K G v d) : EJ K (tC v) (fC d) := fun ρ o ρ' hf e B U σ H I Q q => by
  cases hf; exact q v U H (.refl I) (h _)
theorem ej_v {i : Nat} : EJ K (tVar i) (fV i) := fun ρ o ρ' hf e B U σ H I Q q => by
  unfold fV at hf
  split at hf
  · rename_i d hd
    cases hf
    obtain ⟨v, h1, h2⟩ := I.slot i _ hd
    exact ⟨v, h1, q v U H (.refl I) h2⟩
  · rename_i x d hd
    cases hf
    obtain ⟨v, h1, h2⟩ := I.slot i _ hd
    exact ⟨v, h1, q v U H (.refl I) h1⟩
  · cases hf
theorem frz_ok {e : List Addr} {B : Addr → Prop} {ρ ρ1 ρ2 : Rho} {U U1 : Addr → Bool} {σ : L2.St} {H H1 : Hp} {v : V} {o : Op} {d : D} (I : Iv K e B ρ U σ H) (P : EPost K e B ρ U σ H ρ1 U1 H1) (r : ROp K ρ1 U1 σ H1 H v o) (h : frz o ρ1 = some (d, ρ2)) :
    ∃ U2, EPost K e B ρ U σ H ρ2 U2 H1 ∧ Rep K (mask U2 H1) v d := by
  cases o with
  | val x => cases h; exact ⟨U1, P, r⟩
  | own x =>
    cases h
    obtain ⟨p, rfl, hu, hr, hn, h0⟩ := r
    exact ⟨_, P.freezeNew hr hn h0 I.dom⟩
  | slot i =>
    simp only [frz] at h
    split at h
    · rename_i x hx
      cases h
      obtain ⟨w, h1, h2⟩ := P.inv.slot i _ hx
      have r' : σ[i]? = some (some v) := r
      rw [r'] at h1; cases h1
      exact ⟨U1, P, h2⟩
    · rename_i x hx
      cases h
      obtain ⟨w, h1, p, h2, _⟩ := P.inv.slot i _ hx
      have r' : σ[i]? = some (some v) := r
      rw [r'] at h1; cases h1; cases h2
      obtain ⟨p1, p2⟩ := P.inv.freeze hx r'
      exact ⟨_, P.trans I p1, p2⟩
    · cases h
theorem fj_of (h : EJ K te f) : FJ K te (fF f) := fun ρ d ρ' hf e B U σ H I Q q => by
  obtain ⟨⟨o, ρ1⟩, h1, h2⟩ := bind_some hf
  refine h ρ o ρ1 h1 e B U σ H I Q fun v U1 H1 P r => ?_
  obtain ⟨U2, P2, r2⟩ := frz_ok I P r h2
  exact q v U2 H1 P2 r2
theorem ej_of {f : FF} (h : FJ K te f) : EJ K te (fO f) := fun ρ o ρ' hf e B U σ H I Q q => by
  obtain ⟨⟨d, ρ1⟩, h1, h2⟩ := map_some hf
  cases h2
  exact h ρ d ρ' h1 e B U σ H I Q q
theorem ej_op {r : R2} {g : D → D → Option Op} (ho : OJ2 K r g) (ha : EJ K ta fa) (hb : EJ K tb fb) : EJ K (tOp r ta tb) (fOp2 g fa fb) := fun ρ o ρ' hf e B U σ H I Q q => by
  obtain ⟨⟨a, ρ1⟩, h1, hf⟩ := bind_some hf
  obtain ⟨⟨b, ρ2⟩, h2, hf⟩ := bind_some hf
  obtain ⟨x, gx, hf⟩ := bind_some hf
  obtain ⟨y, gy, hf⟩ := bind_some hf
  obtain ⟨z, gz, hf⟩ := map_some hf
  cases hf
  refine ha ρ a ρ1 h1 e B U σ H I _ fun v U1 H1 P1 r1 => hb ρ1 b _ h2 e B U1 σ H1 P1.inv _ fun w U2 H2 P2 r2 => ?_
  have P := P1.trans I P2
  refine ho x y _ gz U2 H2 v w P.inv.dom ((r1.step P2).b P.inv gx) (r2.b P.inv gy) Q fun u U3 H3 E r3 => ?_
  exact q u U3 H3 (P.trans I (E.post P.inv)) ((r3.op P.inv).back P.stp.dm)
theorem ej_un {r : V → Hp → VK → Prop} {g : D → Option Op} (ho : OJ1 K r g) (ha : EJ K ta fa) : EJ K (tUn r ta) (fOp1 g fa) := fun ρ o ρ' hf e B U σ H I Q q => by
  obtain ⟨⟨a, ρ1⟩, h1, hf⟩ := bind_some hf
  obtain ⟨x, gx, hf⟩ := bind_some hf
  obtain ⟨z, gz, hf⟩ := map_some hf
  cases hf
  refine ha ρ a _ h1 e B U σ H I _ fun v U1 H1 P r1 => ?_
  refine ho x _ gz U1 H1 v P.inv.dom (r1.b P.inv gx) Q fun u U3 H3 E r3 => ?_
  exact q u U3 H3 (P.trans I (E.post P.inv)) ((r3.op P.inv).back P.stp.dm)
theorem aj_nil : AJ K tNil aNil := fun ρ o ρ' hf e B U σ H I Q q => by
  cases hf; exact q [] U H (.refl I) .nil
theorem ROps.step {e : List Addr} {B : Addr → Prop} {ρ1 ρ2 : Rho} {U1 U2 : Addr → Bool} {σ : L2.St} {H1 H2 H0 : Hp} {vs : List V} {os : List Op} (h : ROps K ρ1 U1 σ H1 H0 vs os) (P : EPost K e B ρ1 U1 σ H1 ρ2 U2 H2) : ROps K ρ2 U2 σ H2 H0 vs os := by
  induction h with
  | nil => exact .nil
  | cons r _ ih => exact .cons (r.step P) ih
theorem ROps.back {ρ : Rho} {U : Addr → Bool} {σ : L2.St} {H H0 H00 : Hp} {vs : List V} {os : List Op} (h : ROps K ρ U σ H H0 vs os) (s : ∀ b, H00 b ≠ none → H0 b ≠ none) : ROps K ρ U σ H H00 vs os := by
  induction h with
  | nil => exact .nil
  | cons r _ ih => exact .cons (r.back s) ih
theorem aj_b {tr : TA} {fr : FA} (h : EJ K te f) (hr : AJ K tr fr) : AJ K (tCons te tr) (aB f fr) := fun ρ os ρ' hf e B U σ H I Q q => by
  obtain ⟨⟨o, ρ1⟩, h1, hf⟩ := bind_some hf
  obtain ⟨⟨os, ρ2⟩, h2, hf⟩ := map_some hf
  cases hf
  refine h ρ o ρ1 h1 e B U σ H I _ fun v U1 H1 P1 r1 => hr ρ1 os _ h2 e B U1 σ H1 P1.inv _ fun vs U2 H2 P2 r2 => ?_
  exact q (v :: vs) U2 H2 (P1.trans I P2) (.cons (r1.step P2) (r2.back P1.stp.dm))
theorem aj_f {tr : TA} {fr : FA} (h : EJ K te f) (hr : AJ K tr fr) : AJ K (tCons te tr) (aF f fr) := fun ρ os ρ' hf e B U σ H I Q q => by
  obtain ⟨⟨d, ρ1⟩, h1, hf⟩ := bind_some hf
  obtain ⟨⟨os, ρ2⟩, h2, hf⟩ := map_some hf
  cases hf
  refine fj_of h ρ d ρ1 h1 e B U σ H I _ fun v U1 H1 P1 r1 => hr ρ1 os _ h2 e B U1 σ H1 P1.inv _ fun vs U2 H2 P2 r2 => ?_
  refine q (v :: vs) U2 H2 (P1.trans I P2) (.cons (ROp.step (o := .val d) (H0 := H) r1 P2) (r2.back P1.stp.dm))
theorem ROps.gets {e : List Addr} {B : Addr → Prop} {ρ : Rho} {U : Addr → Bool} {σ : L2.St} {H H0 : Hp} {vs : List V} {os : List Op} (I : Iv K e B ρ U σ H) (h : ROps K ρ U σ H H0 vs os) : ∀ {ds}, gets ρ os = some ds → RepBs K U H vs ds := by
  induction h with
  | nil => intro ds h; cases h; exact .nil
  | cons r _ ih =>
    intro ds h
    obtain ⟨d, h1, h⟩ := bind_some h
    obtain ⟨ds', h2, h⟩ := map_some h
    cases h
    exact .cons (r.b I h1) (ih h2)
theorem ej_cb {r : List V → Hp → VK → Prop} {g : List D → Option Op} {ta : TA} {fa : FA} (hc : CJ K r g) (ha : AJ K ta fa) : EJ K (tCB r ta) (fCall g fa) := fun ρ o ρ' hf e B U σ H I Q q => by
  obtain ⟨⟨os, ρ1⟩, h1, hf⟩ := bind_some hf
  obtain ⟨ds, h2, hf⟩ := bind_some hf
  obtain ⟨z, h3, hf⟩ := map_some hf
  cases hf
  refine ha ρ os _ h1 e B U σ H I _ fun vs U1 H1 P r1 => ?_
  refine hc ds _ h3 U1 H1 vs P.inv.dom (r1.gets P.inv h2) Q fun u U3 H3 E r3 => ?_
  exact q u U3 H3 (P.trans I (E.post P.inv)) ((r3.op P.inv).back P.stp.dm)
/-- displays -/
def dVals : List Op → Option (List D)
  | [] => some []
  | .val d :: os => (dVals os).map fun ds => d :: ds
  | _ :: _ => none
theorem ROps.vals {ρ : Rho} {U : Addr → Bool} {σ : L2.St} {H H0 : Hp} {vs : List V} {os : List Op} (h : ROps K ρ U σ H H0 vs os) : ∀ {ds}, dVals os = some ds → Reps K (mask U H) vs ds := by
  induction h with
  | nil => intro ds h; cases h; exact .nil
  | cons r _ ih =>
    rename_i o os _
    intro ds h
    cases o with
    | val d =>
      obtain ⟨ds', h2, h⟩ := map_some h
      cases h
      exact .cons r (ih h2)
    | slot i => cases h
    | own d => cases h
def fTup (fa : FA) : FE := fun ρ => (fa ρ).bind fun (os, ρ1) => (dVals os).bind fun ds => if ds.length ≤ sizeLine then some (.val (.tup ds), ρ1) else none
def fLst (fa : FA) : FE := fun ρ => (fa ρ).bind fun (os, ρ1) => (dVals os).bind fun ds => if ds.length ≤ sizeLine then some (.own (.lst ds), ρ1) else none
theorem ej_tup {ta : TA} {fa : FA} (ha : AJ K ta fa) : EJ K (tTup ta) (fTup fa) := fun ρ o ρ' hf e B U σ H I Q q => by
  obtain ⟨⟨os, ρ1⟩, h1, hf⟩ := bind_some hf
  obtain ⟨ds, h2, hf⟩ := bind_some hf
  split at hf
  · rename_i hz
    cases hf
    refine ha ρ os _ h1 e B U σ H I _ fun vs U1 H1 P r1 => ?_
    have rs := r1.vals h2
    refine ⟨by rw [rs.length]; exact hz, fun p hp => ?_⟩
    exact q _ U1 _ (P.trans I ((Ext.new hp P.inv.dom).post P.inv)) (RRes.tup hp P.inv.dom rs)
  · cases hf
theorem ej_lst {ta : TA} {fa : FA} (ha : AJ K ta fa) : EJ K (tLst ta) (fLst fa) := fun ρ o ρ' hf e B U σ H I Q q => by
  obtain ⟨⟨os, ρ1⟩, h1, hf⟩ := bind_some hf
  obtain ⟨ds, h2, hf⟩ := bind_some hf
  split at hf
  · rename_i hz
    cases hf
    refine ha ρ os _ h1 e B U σ H I _ fun vs U1 H1 P r1 => ?_
    have rs := r1.vals h2
    refine ⟨by rw [rs.length]; exact hz, fun p hp => ?_⟩
    exact q _ _ _ (P.trans I ((Ext.newU hp P.inv.dom).post P.inv)) (((RRes.lst hp rs).op P.inv).back P.stp.dm)
  · cases hf
end
end DV

set_option Elab.async false
set_option linter.all false
set_option maxRecDepth 100000
set_option maxHeartbeats 1000000
namespace DV
open PySem PySem.Spec PyProof.Rows L2
/-! ### tests -/
def fT (f : FE) : FT := fun ρ => (f ρ).bind fun (o, ρ1) => match o with
  | .val (.bl b) => some (b, ρ1)
  | _ => none
def fAnd (f g : FT) : FT := fun ρ => (f ρ).bind fun (b, ρ1) => if b = true then g ρ1 else some (false, ρ1)
def fOr (f g : FT) : FT := fun ρ => (f ρ).bind fun (b, ρ1) => if b = true then some (true, ρ1) else g ρ1
def fNot (f : FT) : FT := fun ρ => (f ρ).map fun (b, ρ1) => (!b, ρ1)
def fB (f : FT) : FE := fun ρ => (f ρ).map fun (b, ρ1) => (.val (.bl b), ρ1)
def fIf (c : FT) (f g : FE) : FE := fun ρ => (c ρ).bind fun (b, ρ1) => if b = true then f ρ1 else g ρ1
section
variable {K : Fr} {ta tb te : TE} {fa fb f : FE} {tt tu : TT} {ft fu : FT}
theorem rop_bl {ρ : Rho} {U : Addr → Bool} {σ : L2.St} {H H0 : Hp} {v : V} {b : Bool} (h : ROp K ρ U σ H H0 v (.val (.bl b))) : v = .bl b := by
  have h' : Rep K (mask U H) v (.bl b) := h
  cases h'; rfl
theorem fT_some {ρ ρ' : Rho} {b : Bool} (h : fT f ρ = some (b, ρ')) : f ρ = some (.val (.bl b), ρ') := by
  obtain ⟨⟨o, ρ1⟩, h1, h⟩ := bind_some h
  dsimp only at h
  split at h
  · have e1 := Option.some.inj h
    cases e1; exact h1
  · cases h
theorem tj_test (h : EJ K te f) : TJ K (tTest te) (fT f) := fun ρ b ρ' hf e B U σ H I Q q =>
  h ρ _ ρ' (fT_some hf) e B U σ H I _ fun v U' H' P r => ⟨b, rop_bl r, q U' H' P⟩
theorem tj_b (h : EJ K te f) : TJ K (tB te) (fT f) := fun ρ b ρ' hf e B U σ H I Q q =>
  h ρ _ ρ' (fT_some hf) e B U σ H I _ fun v U' H' P r => ⟨b, rop_bl r, q U' H' P⟩
theorem tj_and (h : TJ K tt ft) (g : TJ K tu fu) : TJ K (tAnd tt tu) (fAnd ft fu) := fun ρ b ρ' hf e B U σ H I Q q => by
  obtain ⟨⟨c, ρ1⟩, h1, h2⟩ := bind_some hf
  refine h ρ c ρ1 h1 e B U σ H I _ fun U1 H1 P1 => ?_
  cases c with
  | true =>
    rw [if_pos rfl]
    exact g ρ1 b ρ' (by simpa using h2) e B U1 σ H1 P1.inv Q fun U2 H2 P2 => q U2 H2 (P1.trans I P2)
  | false =>
    rw [if_neg (by simp)]
    have e1 : (false, ρ1) = (b, ρ') := by simpa using h2
    cases e1
    exact q U1 H1 P1
theorem tj_or (h : TJ K tt ft) (g : TJ K tu fu) : TJ K (tOr tt tu) (fOr ft fu) := fun ρ b ρ' hf e B U σ H I Q q => by
  obtain ⟨⟨c, ρ1⟩, h1, h2⟩ := bind_some hf
  refine h ρ c ρ1 h1 e B U σ H I _ fun U1 H1 P1 => ?_
  cases c with
  | false =>
    rw [if_neg (by simp)]
    exact g ρ1 b ρ' (by simpa using h2) e B U1 σ H1 P1.inv Q fun U2 H2 P2 => q U2 H2 (P1.trans I P2)
  | true =>
    rw [if_pos rfl]
    have e1 : (true, ρ1) = (b, ρ') := by simpa using h2
    cases e1
    exact q U1 H1 P1
theorem tj_not (h : TJ K tt ft) : TJ K (tNot tt) (fNot ft) := fun ρ b ρ' hf e B U σ H I Q q => by
  obtain ⟨⟨c, ρ1⟩, h1, h2⟩ := map_some hf
  cases h2
  exact h ρ c _ h1 e B U σ H I _ fun U1 H1 P1 => q U1 H1 P1
theorem ej_if (h : TJ K tt ft) (ha : EJ K ta fa) (hb : EJ K tb fb) : EJ K (tIf tt ta tb) (fIf ft fa fb) := fun ρ o ρ' hf e B U σ H I Q q => by
  obtain ⟨⟨c, ρ1⟩, h1, h2⟩ := bind_some hf
  refine h ρ c ρ1 h1 e B U σ H I _ fun U1 H1 P1 => ?_
  cases c with
  | false =>
    rw [if_neg (by simp)]
    exact hb ρ1 o ρ' (by simpa using h2) e B U1 σ H1 P1.inv Q fun v U2 H2 P2 r => q v U2 H2 (P1.trans I P2) (r.back P1.stp.dm)
  | true =>
    rw [if_pos rfl]
    exact ha ρ1 o ρ' (by simpa using h2) e B U1 σ H1 P1.inv Q fun v U2 H2 P2 r => q v U2 H2 (P1.trans I P2) (r.back P1.stp.dm)
theorem rop_of_bl {ρ : Rho} {U : Addr → Bool} {σ : L2.St} {H H0 : Hp} {b : Bool} : ROp K ρ U σ H H0 (.bl b) (.val (.bl b)) := Rep.bl b
theorem ej_andV (ha : EJ K ta fa) (hb : EJ K tb (fB fu)) : EJ K (tAndV ta tb) (fB (fAnd (fT fa) fu)) := fun ρ o ρ' hf e B U σ H I Q q => by
  obtain ⟨⟨b, ρ2⟩, h0, h3⟩ := map_some hf
  cases h3
  obtain ⟨⟨c, ρ1⟩, h1, h2⟩ := bind_some h0
  refine ha ρ _ ρ1 (fT_some h1) e B U σ H I _ fun v U1 H1 P1 r1 => ⟨c, rop_bl r1, ?_⟩
  cases c with
  | false =>
    rw [if_neg (by simp)]
    have e1 : (false, ρ1) = (b, ρ') := by simpa using h2
    cases e1
    exact q _ U1 H1 P1 rop_of_bl
  | true =>
    rw [if_pos rfl]
    have h2' : fu ρ1 = some (b, ρ') := by simpa using h2
    exact hb ρ1 (.val (.bl b)) ρ' (by unfold fB; rw [h2']; rfl) e B U1 σ H1 P1.inv Q fun v U2 H2 P2 r => q v U2 H2 (P1.trans I P2) (r.back P1.stp.dm)
theorem ej_orV (ha : EJ K ta fa) (hb : EJ K tb (fB fu)) : EJ K (tOrV ta tb) (fB (fOr (fT fa) fu)) := fun ρ o ρ' hf e B U σ H I Q q => by
  obtain ⟨⟨b, ρ2⟩, h0, h3⟩ := map_some hf
  cases h3
  obtain ⟨⟨c, ρ1⟩, h1, h2⟩ := bind_some h0
  refine ha ρ _ ρ1 (fT_some h1) e B U σ H I _ fun v U1 H1 P1 r1 => ⟨c, rop_bl r1, ?_⟩
  cases c with
  | true =>
    rw [if_pos rfl]
    have e1 : (true, ρ1) = (b, ρ') := by simpa using h2
    cases e1
    exact q _ U1 H1 P1 rop_of_bl
  | false =>
    rw [if_neg (by simp)]
    have h2' : fu ρ1 = some (b, ρ') := by simpa using h2
    exact hb ρ1 (.val (.bl b)) ρ' (by unfold fB; rw [h2']; rfl) e B U1 σ H1 P1.inv Q fun v U2 H2 P2 r => q v U2 H2 (P1.trans I P2) (r.back P1.stp.dm)
/-- the last of a chain of and, or -/
theorem ej_lastV (ha : EJ K ta fa) : EJ K ta (fB (fT fa)) := fun ρ o ρ' hf e B U σ H I Q q => by
  obtain ⟨⟨b, ρ2⟩, h0, h3⟩ := map_some hf
  cases h3
  exact ha ρ _ _ (fT_some h0) e B U σ H I Q q
theorem ej_notV (ha : EJ K ta fa) : EJ K (tNotV ta) (fB (fNot (fT fa))) := fun ρ o ρ' hf e B U σ H I Q q => by
  obtain ⟨⟨b, ρ2⟩, h0, h3⟩ := map_some hf
  cases h3
  obtain ⟨⟨c, ρ1⟩, h1, h2⟩ := map_some h0
  cases h2
  exact ha ρ _ _ (fT_some h1) e B U σ H I _ fun v U1 H1 P1 r1 => ⟨c, rop_bl r1, q _ U1 H1 P1 rop_of_bl⟩
end

/-! ### targets -/
abbrev FV := D → Rho → Option Rho
/-- behind a store of frozen data -/
structure VPost (K : Fr) (e : List Addr) (B : Addr → Prop) (ρ : Rho) (U : Addr → Bool) (σ : L2.St) (H : Hp) (is : List Nat) (ρ' : Rho) (σ' : L2.St) : Prop where
  inv : Iv K e B ρ' U σ' H
  own : ∀ b, Own ρ' σ' b → Own ρ σ b
  sig : ∀ j, j ∉ is → σ'[j]? = σ[j]?
  rho : ∀ j, j ∉ is → ρ'[j]? = ρ[j]?
  len : σ'.length = σ.length
/-- a target of frozen data; is: the places that it stores to -/
def VJ (K : Fr) (g : TG) (gv : FV) (is : List Nat) : Prop := ∀ d ρ ρ', gv d ρ = some ρ' → ∀ e B U σ H v, Iv K e B ρ U σ H → Rep K (mask U H) v d → ∀ Q : L2.St → Hp → Prop,
  (∀ σ', VPost K e B ρ U σ H is ρ' σ' → Q σ' H) → g v σ H Q
def vN (i : Nat) : FV := fun d ρ => some (ρ.set i (some (.fz d)))
section
variable {K : Fr} {e : List Addr} {B : Addr → Prop} {ρ ρ' ρ1 ρ2 : Rho} {U U' U1 U2 : Addr → Bool} {σ σ' : L2.St} {H H' H1 H2 H0 H00 : Hp} {v : V} {o : Op} {d : D}
theorem set_getσ {i j : Nat} {x : Option V} {y : Option V} (h : (σ.set i x)[j]? = some y) : (j = i ∧ x = y ∧ i < σ.length) ∨ (j ≠ i ∧ σ[j]? = some y) := by
  by_cases e : i = j
  · subst e
    by_cases hi : i < σ.length
    · rw [List.getElem?_set_self hi] at h; exact .inl ⟨rfl, by simpa using h, hi⟩
    · rw [List.getElem?_eq_none (by simpa using hi)] at h; cases h
  · rw [List.getElem?_set_ne e] at h; exact .inr ⟨fun z => e z.symm, h⟩
theorem setFz (I : Iv K e B ρ U σ H) {i : Nat} (r : Rep K (mask U H) v d) : VPost K e B ρ U σ H [i] (ρ.set i (some (.fz d))) (σ.set i (some v)) := by
  refine ⟨⟨by simpa using I.len, fun j l hj => ?_, fun j k x y a b p hj hk pj pk => ?_, I.dom, I.bdom⟩, fun b hb => ?_, fun j hj => ?_, fun j hj => ?_, by simp⟩
  · rcases set_get hj with ⟨rfl, e1, hi⟩ | ⟨ne, hj⟩
    · cases e1
      exact ⟨v, List.getElem?_set_self (by rw [← I.len]; exact hi), r⟩
    · obtain ⟨w, h1, h2⟩ := I.slot j l hj
      exact ⟨w, by rw [List.getElem?_set_ne (fun z => ne z.symm)]; exact h1, h2⟩
  · rcases set_get hj with ⟨_, e1, _⟩ | ⟨nj, hj⟩
    · cases e1
    · rcases set_get hk with ⟨_, e1, _⟩ | ⟨nk, hk⟩
      · cases e1
      · rw [List.getElem?_set_ne (fun z => nj z.symm)] at pj
        rw [List.getElem?_set_ne (fun z => nk z.symm)] at pk
        exact I.apart j k _ _ _ _ _ hj hk pj pk
  · obtain ⟨j, x, d', h1, h2⟩ := hb
    rcases set_get h1 with ⟨_, e1, _⟩ | ⟨nj, h1⟩
    · cases e1
    · rw [List.getElem?_set_ne (fun z => nj z.symm)] at h2
      exact ⟨j, x, d', h1, h2⟩
  · rw [List.getElem?_set_ne (fun z => hj (by simp [z]))]
  · rw [List.getElem?_set_ne (fun z => hj (by simp [z]))]
/-- a new object into a slot -/
theorem setOw (I : Iv K e B ρ U σ H) (hB : ¬ B p) {i : Nat} (hu : U p = true) (r : RepO K U H p d) (hn : ¬ Own ρ σ p) :
    Iv K e B (ρ.set i (some (.ow none d))) U (σ.set i (some (.ref p))) H ∧ ∀ b, Own (ρ.set i (some (.ow none d))) (σ.set i (some (.ref p))) b → Own ρ σ b ∨ b = p := by
  refine ⟨⟨by simpa using I.len, fun j l hj => ?_, fun j k x y a b q hj hk pj pk => ?_, I.dom, I.bdom⟩, fun b hb => ?_⟩
  · rcases set_get hj with ⟨rfl, e1, hi⟩ | ⟨ne, hj⟩
    · cases e1
      exact ⟨.ref p, List.getElem?_set_self (by rw [← I.len]; exact hi), p, rfl, hu, r, hB⟩
    · obtain ⟨w, h1, h2⟩ := I.slot j l hj
      exact ⟨w, by rw [List.getElem?_set_ne (fun z => ne z.symm)]; exact h1, h2⟩
  · by_cases ej : j = i
    · by_cases ek : k = i
      · rw [ej, ek]
      · subst ej
        rcases set_getσ pj with ⟨_, e5, _⟩ | ⟨z, _⟩
        · cases e5
          rw [List.getElem?_set_ne (fun z => ek z.symm)] at pk hk
          exact absurd ⟨k, _, _, hk, pk⟩ hn
        · exact absurd rfl z
    · rw [List.getElem?_set_ne (fun z => ej z.symm)] at pj hj
      by_cases ek : k = i
      · subst ek
        rcases set_getσ pk with ⟨_, e5, _⟩ | ⟨z, _⟩
        · cases e5
          exact absurd ⟨j, _, _, hj, pj⟩ hn
        · exact absurd rfl z
      · rw [List.getElem?_set_ne (fun z => ek z.symm)] at pk hk
        exact I.apart j k _ _ _ _ _ hj hk pj pk
  · obtain ⟨j, x, d', h1, h2⟩ := hb
    by_cases ej : j = i
    · subst ej
      rcases set_getσ h2 with ⟨_, e5, _⟩ | ⟨z, _⟩
      · cases e5; exact .inr rfl
      · exact absurd rfl z
    · rw [List.getElem?_set_ne (fun z => ej z.symm)] at h1 h2
      exact .inl ⟨j, x, d', h1, h2⟩
theorem vj_name {i : Nat} : VJ K (gName i) (vN i) [i] := fun d ρ ρ' h e B U σ H v I r Q q => by
  cases h; exact q _ (setFz I r)
/-- targets one by one -/
def vL : List FV → List D → Rho → Option Rho
  | [], [], ρ => some ρ
  | g :: gs, d :: ds, ρ => (g d ρ).bind fun ρ1 => vL gs ds ρ1
  | _, _, _ => none
def vT (gs : List FV) : FV := fun d ρ => match d with
  | .tup ds => vL gs ds ρ
  | _ => none
def VLJ (K : Fr) (g : TGs) (gs : List FV) (is : List Nat) : Prop := ∀ ds ρ ρ', vL gs ds ρ = some ρ' → ∀ e B U σ H vs, Iv K e B ρ U σ H → Reps K (mask U H) vs ds → ∀ Q : L2.St → Hp → Prop,
  (∀ σ', VPost K e B ρ U σ H is ρ' σ' → Q σ' H) → g vs σ H Q
theorem VPost.trans {σ1 σ2 : L2.St} {is js : List Nat} (a : VPost K e B ρ U σ H is ρ1 σ1) (b : VPost K e B ρ1 U σ1 H js ρ2 σ2) : VPost K e B ρ U σ H (is ++ js) ρ2 σ2 where
  inv := b.inv
  own := fun p h => a.own p (b.own p h)
  sig := fun j hj => by
    rw [List.mem_append, not_or] at hj
    exact (b.sig j hj.2).trans (a.sig j hj.1)
  rho := fun j hj => by
    rw [List.mem_append, not_or] at hj
    exact (b.rho j hj.2).trans (a.rho j hj.1)
  len := b.len.trans a.len
theorem vlj_nil : VLJ K gNil [] [] := fun ds ρ ρ' h e B U σ H vs I r Q q => by
  cases ds with
  | nil =>
    cases h; cases r
    exact ⟨rfl, q σ ⟨I, fun _ h => h, fun _ _ => rfl, fun _ _ => rfl, rfl⟩⟩
  | cons d ds => cases h
theorem vlj_cons {g : TG} {gs : TGs} {f : FV} {fs : List FV} {is js : List Nat} (h : VJ K g f is) (hs : VLJ K gs fs js) : VLJ K (gCons g gs) (f :: fs) (is ++ js) := fun ds ρ ρ' hf e B U σ H vs I r Q q => by
  cases ds with
  | nil => cases hf
  | cons d ds =>
    obtain ⟨ρ1, h1, h2⟩ := bind_some hf
    cases r with
    | cons r rs =>
      exact ⟨_, _, rfl, h d ρ ρ1 h1 e B U σ H _ I r _ fun σ1 P1 => hs ds ρ1 ρ' h2 e B U σ1 H _ P1.inv rs Q fun σ2 P2 => q σ2 (P1.trans P2)⟩
theorem vL_len : ∀ {gs : List FV} {ds : List D} {ρ ρ' : Rho}, vL gs ds ρ = some ρ' → gs.length = ds.length
  | [], [], _, _, _ => rfl
  | [], _ :: _, _, _, h => by cases h
  | _ :: _, [], _, _, h => by cases h
  | g :: gs, d :: ds, ρ, ρ', h => by
    obtain ⟨ρ1, h1, h2⟩ := bind_some h
    simp [vL_len h2]
theorem vj_tup {n : Nat} {gs : TGs} {fs : List FV} {is : List Nat} (hs : VLJ K gs fs is) (hn : fs.length = n) : VJ K (gTup K n gs) (vT fs) is := fun d ρ ρ' hf e B U σ H v I r Q q => by
  unfold vT at hf
  split at hf
  · rename_i ds
    cases r with
    | tup h r =>
      refine ⟨_, _, rfl, SqT.of (mask_some h).2, ?_, hs ds ρ ρ' hf e B U σ H _ I r Q q⟩
      rw [r.length, ← vL_len hf, hn]
  · cases hf
end

/-! ### statements -/
def sNx : FS := fun ρ => some (.nx ρ)
def sBrk : FS := fun ρ => some (.brk ρ)
def sCnt : FS := fun ρ => some (.cnt ρ)
def sSeq (f g : FS) : FS := fun ρ => match f ρ with
  | some (.nx ρ1) => g ρ1
  | o => o
def sExpr (f : FE) : FS := fun ρ => (f ρ).map fun (_, ρ1) => .nx ρ1
def retL (ρ : Rho) : Op → Option L
  | .val d => some (.fz d)
  | .own d => some (.ow none d)
  | .slot i => match ρ[i]? with
    | some (some (.fz d)) => some (.fz d)
    | some (some (.ow none d)) => some (.ow none d)
    | _ => none
def sRet (f : FE) : FS := fun ρ => (f ρ).bind fun (o, ρ1) => (retL ρ1 o).map fun l => .ret l ρ1
def sIf (c : FT) (f g : FS) : FS := fun ρ => (c ρ).bind fun (b, ρ1) => if b = true then f ρ1 else g ρ1
/-- x = e -/
def gN (i : Nat) : Op → Rho → Option Rho
  | .val d, ρ => some (ρ.set i (some (.fz d)))
  | .own d, ρ => some (ρ.set i (some (.ow none d)))
  | .slot j, ρ => (frz (.slot j) ρ).map fun (d, ρ1) => ρ1.set i (some (.fz d))
def sSet (i : Nat) (f : FE) : FS := fun ρ => (f ρ).bind fun (o, ρ1) => (gN i o ρ1).map fun ρ2 => .nx ρ2
def sAsgV (g : FV) (f : FE) : FS := fun ρ => (fF f ρ).bind fun (d, ρ1) => (g d ρ1).map fun ρ2 => .nx ρ2
section
variable {K : Fr} {te : TE} {f : FE} {ts tu : TS} {fs fu : FS} {tt : TT} {ft : FT}
theorem sj_nx : SJ K tNext sNx := fun ρ o h e B U σ H I N w => by
  cases h; exact w U σ H (.refl I)
theorem sj_brk : SJ K tBreak sBrk := fun ρ o h e B U σ H I N w => by
  cases h; exact w U σ H (.refl I)
theorem sj_cnt : SJ K tCont sCnt := fun ρ o h e B U σ H I N w => by
  cases h; exact w U σ H (.refl I)
theorem sj_seq (h : SJ K ts fs) (g : SJ K tu fu) : SJ K (tSeq ts tu) (sSeq fs fu) := fun ρ o hf e B U σ H I N w => by
  unfold sSeq at hf
  split at hf
  · rename_i ρ1 h1
    refine h ρ _ h1 e B U σ H I _ fun U1 σ1 H1 P1 => ?_
    exact g ρ1 o hf e B U1 σ1 H1 P1.inv N (w.behind I P1)
  · rename_i o2 hx
    refine h ρ o hf e B U σ H I _ ?_
    cases o with
    | nx ρ1 => exact (hx ρ1 hf).elim
    | ret l ρ1 => exact w
    | brk ρ1 => exact w
    | cnt ρ1 => exact w
theorem sj_expr (h : EJ K te f) : SJ K (tDrop te) (sExpr f) := fun ρ o hf e B U σ H I N w => by
  obtain ⟨⟨x, ρ1⟩, h1, h2⟩ := map_some hf
  cases h2
  exact h ρ x ρ1 h1 e B U σ H I _ fun v U1 H1 P _ => w U1 σ H1 (.of P)
theorem retL_ok {e : List Addr} {B : Addr → Prop} {ρ ρ1 : Rho} {U U1 : Addr → Bool} {σ : L2.St} {H H1 : Hp} {v : V} {o : Op} {l : L} (I : Iv K e B ρ U σ H) (P : EPost K e B ρ U σ H ρ1 U1 H1) (r : ROp K ρ1 U1 σ H1 H v o) (h : retL ρ1 o = some l) : RetOk K B U1 H1 v l := by
  cases o with
  | val d => cases h; exact r
  | own d =>
    cases h
    obtain ⟨p, rfl, hu, hr, hn, h0⟩ := r
    exact ⟨p, rfl, hu, hr, fun z => I.bdom p z h0⟩
  | slot i =>
    simp only [retL] at h
    have r' : σ[i]? = some (some v) := r
    split at h
    · rename_i d hd
      cases h
      obtain ⟨w, h1, h2⟩ := P.inv.slot i _ hd
      rw [r'] at h1; cases h1; exact h2
    · rename_i d hd
      cases h
      obtain ⟨w, h1, p, h2, hu, hr, hb⟩ := P.inv.slot i _ hd
      rw [r'] at h1; cases h1; cases h2
      exact ⟨p, rfl, hu, hr, hb⟩
    · cases h
theorem sj_ret (h : EJ K te f) : SJ K (tRet te) (sRet f) := fun ρ o hf e B U σ H I N w => by
  obtain ⟨⟨x, ρ1⟩, h1, hf⟩ := bind_some hf
  obtain ⟨l, h2, h3⟩ := map_some hf
  cases h3
  exact h ρ x ρ1 h1 e B U σ H I _ fun v U1 H1 P r => w v U1 σ H1 (.of P) (retL_ok I P r h2)
def sRetN : FS := fun ρ => some (.ret (.fz .non) ρ)
theorem sj_retN : SJ K tRetN sRetN := fun ρ o hf e B U σ H I N w => by
  cases hf; exact w .non U σ H (.refl I) .non
theorem sj_if (h : TJ K tt ft) (ha : SJ K ts fs) (hb : SJ K tu fu) : SJ K (tIfS tt ts tu) (sIf ft fs fu) := fun ρ o hf e B U σ H I N w => by
  obtain ⟨⟨c, ρ1⟩, h1, h2⟩ := bind_some hf
  refine h ρ c ρ1 h1 e B U σ H I _ fun U1 H1 P1 => ?_
  cases c with
  | false =>
    rw [if_neg (by simp)]
    exact hb ρ1 o (by simpa using h2) e B U1 σ H1 P1.inv N (w.behind I (.of P1))
  | true =>
    rw [if_pos rfl]
    exact ha ρ1 o (by simpa using h2) e B U1 σ H1 P1.inv N (w.behind I (.of P1))
theorem sj_never : SJ K tNever (fun _ => none) := fun ρ o hf => by cases hf
theorem gN_ok {e : List Addr} {B : Addr → Prop} {ρ ρ1 ρ2 : Rho} {U U1 : Addr → Bool} {σ : L2.St} {H H1 : Hp} {v : V} {o : Op} {i : Nat} (I : Iv K e B ρ U σ H) (P : EPost K e B ρ U σ H ρ1 U1 H1) (r : ROp K ρ1 U1 σ H1 H v o) (h : gN i o ρ1 = some ρ2) :
    ∃ U2, SPost K e B ρ U σ H ρ2 U2 (σ.set i (some v)) H1 := by
  cases o with
  | val d =>
    cases h
    have g := setFz P.inv (i := i) r
    exact ⟨U1, P.stp, g.inv, fun b hb => .inl (P.own b (g.own b hb))⟩
  | own d =>
    cases h
    obtain ⟨p, rfl, hu, hr, hn, h0⟩ := r
    obtain ⟨g1, g2⟩ := setOw (i := i) P.inv (fun z => I.bdom p z h0) hu hr hn
    exact ⟨U1, P.stp, g1, fun b hb => (g2 b hb).elim (fun z => .inl (P.own b z)) fun z => .inr (z ▸ h0)⟩
  | slot j =>
    obtain ⟨⟨d, ρ3⟩, h1, h2⟩ := map_some h
    cases h2
    obtain ⟨U2, P2, r2⟩ := frz_ok I P r h1
    have g := setFz P2.inv (i := i) r2
    exact ⟨U2, P2.stp, g.inv, fun b hb => .inl (P2.own b (g.own b hb))⟩
theorem sj_set {i : Nat} (h : EJ K te f) : SJ K (tAsg te (gName i)) (sSet i f) := fun ρ o hf e B U σ H I N w => by
  obtain ⟨⟨x, ρ1⟩, h1, hf⟩ := bind_some hf
  obtain ⟨ρ2, h2, h3⟩ := map_some hf
  cases h3
  refine h ρ x ρ1 h1 e B U σ H I _ fun v U1 H1 P r => ?_
  obtain ⟨U2, P2⟩ := gN_ok I P r h2
  exact w U2 _ H1 P2
theorem sj_asgV {g : TG} {gv : FV} {is : List Nat} (h : EJ K te f) (hg : VJ K g gv is) : SJ K (tAsg te g) (sAsgV gv f) := fun ρ o hf e B U σ H I N w => by
  obtain ⟨⟨d, ρ1⟩, h1, hf⟩ := bind_some hf
  obtain ⟨ρ2, h2, h3⟩ := map_some hf
  cases h3
  refine fj_of h ρ d ρ1 h1 e B U σ H I _ fun v U1 H1 P r => ?_
  exact hg d ρ1 ρ2 h2 e B U1 σ H1 v P.inv r _ fun σ2 P2 => w U1 σ2 H1 ⟨P.stp, P2.inv, fun b hb => .inl (P.own b (P2.own b hb))⟩
end
end DV

set_option Elab.async false
set_option linter.all false
set_option maxRecDepth 100000
set_option maxHeartbeats 1000000
namespace DV
open PySem PySem.Spec PyProof.Rows L2
/-! ### what is walked -/
abbrev FI := Rho → Option (List D × Rho)
/-- later states: what is frozen stays -/
def Later (U : Addr → Bool) (H : Hp) (U' : Addr → Bool) (H' : Hp) : Prop := ∀ b o, U b = false → H b = some o → U' b = false ∧ ∃ o', H' b = some o' ∧ Kp o o'
theorem Stp.later {W : Addr → Prop} {U U' : Addr → Bool} {H H' : Hp} (s : Stp W U H U' H') : Later U H U' H' := s.frz
theorem Later.refl {U : Addr → Bool} {H : Hp} : Later U H U H := fun _ o a b => ⟨a, o, b, .refl o⟩
theorem Later.trans {U U1 U2 : Addr → Bool} {H H1 H2 : Hp} (a : Later U H U1 H1) (b : Later U1 H1 U2 H2) : Later U H U2 H2 := fun c o x y => by
  obtain ⟨z, o1, w, k⟩ := a c o x y
  obtain ⟨z2, o2, w2, k2⟩ := b c o1 z w
  exact ⟨z2, o2, w2, k.trans k2⟩
theorem Later.le {U U' : Addr → Bool} {H H' : Hp} {K : Fr} (a : Later U H U' H') : Le K (mask U H) (mask U' H') := .ofK fun b o h => by
  obtain ⟨x, y⟩ := mask_some h
  obtain ⟨z, o', w, k⟩ := a b o x y
  exact ⟨o', by rw [mask_of z, w], k⟩
/-- J yields the items ds in every later state -/
def Iter (K : Fr) (J : It) (ds : List D) (U : Addr → Bool) (H : Hp) : Prop := ∀ U2 H2, Later U H U2 H2 → Dm U2 H2 →
  (∀ i, i < ds.length → J.go i H2 ∧ ∀ x H3, J.yld i H2 x H3 → Ext U2 H2 U2 H3 ∧ ∃ d, ds[i]? = some d ∧ Rep K (mask U2 H3) x d) ∧ ∀ i, ds.length ≤ i → J.stop i H2
def IJ (K : Fr) (wi : TI) (fi : FI) : Prop := ∀ ρ ds ρ', fi ρ = some (ds, ρ') → ∀ e B U σ H, Iv K e B ρ U σ H → ∀ R : It → Hp → Prop,
  (∀ J U' H', EPost K e B ρ U σ H ρ' U' H' → Iter K J ds U' H' → R J H') → wi σ H R
section
variable {K : Fr} {U : Addr → Bool} {H : Hp}
theorem iter_list {a : Addr} {xs : List V} {ds : List D} (h : mask U H a = some (.lst xs)) (r : Reps K (mask U H) xs ds) : Iter K (Itl K a) ds U H := fun U2 H2 L dm => by
  obtain ⟨hu, ha⟩ := mask_some h
  obtain ⟨hu2, o', ha2, kp⟩ := L a _ hu ha
  cases kp
  have hs : SqL K H2 a xs := SqL.of ha2
  refine ⟨fun i hi => ?_, fun i hi => ⟨xs, hs, by rw [r.length]; exact hi⟩⟩
  obtain ⟨v, h1, h2⟩ := r.get (List.getElem?_eq_getElem hi)
  refine ⟨⟨xs, v, hs, h1⟩, fun x H3 y => ?_⟩
  obtain ⟨rfl, y⟩ := y
  have := y xs hs
  rw [h1] at this; cases this
  exact ⟨.refl dm, _, List.getElem?_eq_getElem hi, h2.le L.le⟩
theorem iter_tup {a : Addr} {xs : List V} {ds : List D} (h : mask U H a = some (.tup xs)) (r : Reps K (mask U H) xs ds) : Iter K (Itt K a) ds U H := fun U2 H2 L dm => by
  have hs : SqT K H2 a xs := SqT.of (mask_some ((L.le (K := K)).tup _ _ h)).2
  refine ⟨fun i hi => ?_, fun i hi => ⟨xs, hs, by rw [r.length]; exact hi⟩⟩
  obtain ⟨v, h1, h2⟩ := r.get (List.getElem?_eq_getElem hi)
  refine ⟨⟨xs, v, hs, h1⟩, fun x H3 y => ?_⟩
  obtain ⟨rfl, y⟩ := y
  have := y xs hs
  rw [h1] at this; cases this
  exact ⟨.refl dm, _, List.getElem?_eq_getElem hi, h2.le L.le⟩
/-- the ints lo, lo + c, .. -/
def rangeD (lo c : Int) (n : Nat) : List D := (List.range n).map fun (i : Nat) => D.int (lo + (i : Int) * c)
theorem iter_range {lo : Int} {n : Nat} : Iter K (Itr lo n) (rangeD lo 1 n) U H := fun U2 H2 L dm => by
  refine ⟨fun i hi => ?_, fun i hi => show n ≤ i by simpa [rangeD] using hi⟩
  have hi' : i < n := by simpa [rangeD] using hi
  refine ⟨hi', fun x H3 y => ?_⟩
  obtain ⟨rfl, rfl⟩ := y
  exact ⟨.refl dm, .int (lo + i), by simp [rangeD, hi'], .int _⟩
end
def fIter (f : FE) : FI := fun ρ => (fF f ρ).bind fun (d, ρ1) => match d with
  | .lst ds => some (ds, ρ1)
  | .tup ds => some (ds, ρ1)
  | _ => none
def fIterL (f : FE) : FI := fun ρ => (fF f ρ).bind fun (d, ρ1) => match d with
  | .lst ds => some (ds, ρ1)
  | _ => none
def fIterT (f : FE) : FI := fun ρ => (fF f ρ).bind fun (d, ρ1) => match d with
  | .tup ds => some (ds, ρ1)
  | _ => none
def rangeOk (i j : Int) : Bool := decide (-(2 ^ 62) ≤ i) && decide (i < 2 ^ 62) && decide (-(2 ^ 62) ≤ j) && decide (j < 2 ^ 62)
def fRange1 (fa : FA) : FI := fun ρ => (fa ρ).bind fun (os, ρ1) => match os with
  | [.val (.int j)] => if rangeOk 0 j = true then some (rangeD 0 1 j.toNat, ρ1) else none
  | _ => none
def fRange2 (fa : FA) : FI := fun ρ => (fa ρ).bind fun (os, ρ1) => match os with
  | [.val (.int i), .val (.int j)] => if rangeOk i j = true then some (rangeD i 1 (j - i).toNat, ρ1) else none
  | _ => none
section
variable {K : Fr} {te : TE} {f : FE} {ta : TA} {fa : FA}
theorem ij_list (h : EJ K te f) : IJ K (iList K te) (fIterL f) := fun ρ ds ρ' hf e B U σ H I R q => by
  obtain ⟨⟨d, ρ1⟩, h1, h2⟩ := bind_some hf
  dsimp only at h2
  split at h2
  · cases h2
    refine fj_of h ρ _ ρ' h1 e B U σ H I _ fun v U1 H1 P r => ?_
    cases r with
    | lst hm r => exact ⟨_, rfl, ⟨_, SqL.of (mask_some hm).2⟩, q _ U1 H1 P (iter_list hm r)⟩
  · cases h2
theorem ij_tup (h : EJ K te f) : IJ K (iTup K te) (fIterT f) := fun ρ ds ρ' hf e B U σ H I R q => by
  obtain ⟨⟨d, ρ1⟩, h1, h2⟩ := bind_some hf
  dsimp only at h2
  split at h2
  · cases h2
    refine fj_of h ρ _ ρ' h1 e B U σ H I _ fun v U1 H1 P r => ?_
    cases r with
    | tup hm r => exact ⟨_, rfl, ⟨_, SqT.of (mask_some hm).2⟩, q _ U1 H1 P (iter_tup hm r)⟩
  · cases h2
theorem rangeOk_of {i j : Int} (h : rangeOk i j = true) : -(2 ^ 62) ≤ i ∧ i < 2 ^ 62 ∧ -(2 ^ 62) ≤ j ∧ j < 2 ^ 62 := by
  simp only [rangeOk, Bool.and_eq_true, decide_eq_true_eq] at h
  exact ⟨h.1.1.1, h.1.1.2, h.1.2, h.2⟩
theorem rops_int1 {ρ : Rho} {U : Addr → Bool} {σ : L2.St} {H H0 : Hp} {vs : List V} {j : Int} (h : ROps K ρ U σ H H0 vs [.val (.int j)]) : vs = [.int j] := by
  cases h with
  | cons r t =>
    cases t
    have r' : Rep K (mask U H) _ (.int j) := r
    cases r'; rfl
theorem rops_int2 {ρ : Rho} {U : Addr → Bool} {σ : L2.St} {H H0 : Hp} {vs : List V} {i j : Int} (h : ROps K ρ U σ H H0 vs [.val (.int i), .val (.int j)]) : vs = [.int i, .int j] := by
  cases h with
  | cons r t =>
    rw [rops_int1 t]
    have r' : Rep K (mask U H) _ (.int i) := r
    cases r'; rfl
theorem ij_range1 (h : AJ K ta fa) : IJ K (iRng1 ta) (fRange1 fa) := fun ρ ds ρ' hf e B U σ H I R q => by
  obtain ⟨⟨os, ρ1⟩, h1, h2⟩ := bind_some hf
  dsimp only at h2
  split at h2
  · split at h2
    · rename_i j hj
      cases h2
      refine h ρ _ ρ' h1 e B U σ H I _ fun vs U1 H1 P r => ?_
      obtain ⟨_, _, a, b⟩ := rangeOk_of hj
      exact ⟨_, rops_int1 r, a, b, q _ U1 H1 P iter_range⟩
    · cases h2
  · cases h2
theorem ij_range2 (h : AJ K ta fa) : IJ K (iRng2 ta) (fRange2 fa) := fun ρ ds ρ' hf e B U σ H I R q => by
  obtain ⟨⟨os, ρ1⟩, h1, h2⟩ := bind_some hf
  dsimp only at h2
  split at h2
  · split at h2
    · rename_i i j hj
      cases h2
      refine h ρ _ ρ' h1 e B U σ H I _ fun vs U1 H1 P r => ?_
      exact ⟨_, _, rops_int2 r, rangeOk_of hj, q _ U1 H1 P iter_range⟩
    · cases h2
  · cases h2
end

/-! ### for -/
def forL (g : FV) (body : FS) : List D → FS
  | [], ρ => some (.nx ρ)
  | d :: r, ρ => (g d ρ).bind fun ρ1 => match body ρ1 with
    | some (.nx ρ2) => forL g body r ρ2
    | some (.cnt ρ2) => forL g body r ρ2
    | some (.brk ρ2) => some (.nx ρ2)
    | some (.ret l ρ2) => some (.ret l ρ2)
    | none => none
def sFor (fi : FI) (g : FV) (body : FS) : FS := fun ρ => (fi ρ).bind fun (ds, ρ1) => forL g body ds ρ1
theorem VPost.s {K : Fr} {e : List Addr} {B : Addr → Prop} {ρ ρ1 : Rho} {U : Addr → Bool} {σ σ1 : L2.St} {H : Hp} {is : List Nat} (P : VPost K e B ρ U σ H is ρ1 σ1) : SPost K e B ρ U σ H ρ1 U σ1 H :=
  ⟨.refl, P.inv, fun b h => .inl (P.own b h)⟩
theorem drop_cons {α : Type} {l : List α} {i : Nat} {x : α} (h : l[i]? = some x) : l.drop i = x :: l.drop (i + 1) := by
  obtain ⟨h1, h2⟩ := List.getElem?_eq_some_iff.mp h
  rw [List.drop_eq_getElem_cons h1, h2]
theorem sj_for {K : Fr} {wi : TI} {fi : FI} {g : TG} {gv : FV} {is : List Nat} {tb : TS} {fb : FS} (hi : IJ K wi fi) (hg : VJ K g gv is) (hb : SJ K tb fb) : SJ K (tFor wi g tb) (sFor fi gv fb) := fun ρ o hf e B U σ H I N w => by
  obtain ⟨⟨ds, ρ1⟩, h1, hf⟩ := bind_some hf
  refine hi ρ ds ρ1 h1 e B U σ H I _ fun J U1 H1 P1 it => ?_
  have hl : forL gv fb ds ρ1 = some o := hf
  refine ⟨fun i m σ' H' => m = ds.length - i ∧ i ≤ ds.length ∧ ∃ ρ' U', forL gv fb (ds.drop i) ρ' = some o ∧ SPost K e B ρ U σ H ρ' U' σ' H' ∧ Later U1 H1 U' H',
    ⟨_, rfl, Nat.zero_le _, ρ1, U1, hl, .of P1, .refl⟩, ?_⟩
  rintro i m σ' H' ⟨rfl, hi, ρ', U', hr, P', L⟩
  obtain ⟨i1, i2⟩ := it U' H' L P'.inv.dom
  by_cases hlt : i < ds.length
  · obtain ⟨go, yl⟩ := i1 i hlt
    refine .inr ⟨go, fun σ2 H2 => ∃ ρ2 U2, forL gv fb (ds.drop (i + 1)) ρ2 = some o ∧ SPost K e B ρ U σ H ρ2 U2 σ2 H2 ∧ Later U1 H1 U2 H2, fun σ2 H2 ⟨ρ2, U2, a, b, c⟩ => ⟨ds.length - (i + 1), by omega, rfl, hlt, ρ2, U2, a, b, c⟩, fun x H3 hy => ?_⟩
    obtain ⟨E, d, hd, rd⟩ := yl x H3 hy
    rw [drop_cons hd] at hr
    obtain ⟨ρ3, h3, hr⟩ := bind_some hr
    have PE := E.post P'.inv
    have P3 : SPost K e B ρ U σ H ρ' U' σ' H3 := P'.trans I (.of PE)
    have L3 : Later U1 H1 U' H3 := L.trans PE.stp.later
    refine hg d ρ' ρ3 h3 e B U' σ' H3 x PE.inv rd _ fun σ4 P4 => ?_
    have P5 := P3.trans I P4.s
    skip
    cases hbo : fb ρ3 with
    | none => rw [hbo] at hr; cases hr
    | some ob =>
      rw [hbo] at hr
      refine hb ρ3 ob hbo e B U' σ4 H3 P4.inv _ ?_
      cases ob with
      | nx ρ5 => exact fun U5 σ5 H5 P6 => ⟨ρ5, U5, hr, P5.trans I P6, L3.trans P6.stp.later⟩
      | cnt ρ5 => exact fun U5 σ5 H5 P6 => ⟨ρ5, U5, hr, P5.trans I P6, L3.trans P6.stp.later⟩
      | brk ρ5 => cases hr; exact fun U5 σ5 H5 P6 => w U5 σ5 H5 (P5.trans I P6)
      | ret l ρ5 => cases hr; exact fun v U5 σ5 H5 P6 => w v U5 σ5 H5 (P5.trans I P6)
  · have e1 : i = ds.length := by omega
    subst e1
    rw [List.drop_length] at hr
    cases hr
    exact .inl ⟨i2 _ (Nat.le_refl _), w U' σ' H' P'⟩

/-! ### while -/
def runW (c : FT) (body : FS) : Nat → FS
  | 0, _ => none
  | n + 1, ρ => (c ρ).bind fun (b, ρ1) => if b = true then (match body ρ1 with
      | some (.nx ρ2) => runW c body n ρ2
      | some (.cnt ρ2) => runW c body n ρ2
      | some (.brk ρ2) => some (.nx ρ2)
      | some (.ret l ρ2) => some (.ret l ρ2)
      | none => none) else some (.nx ρ1)
theorem runW_mono {c : FT} {body : FS} : ∀ {n m : Nat} {ρ : Rho} {o : Out}, n ≤ m → runW c body n ρ = some o → runW c body m ρ = some o
  | 0, _, _, _, _, h => by cases h
  | n + 1, 0, _, _, hn, _ => by omega
  | n + 1, m + 1, ρ, o, hn, h => by
    obtain ⟨⟨b, ρ1⟩, h1, h2⟩ := bind_some h
    show (c ρ).bind _ = _
    rw [h1]
    show (if b = true then _ else _) = _
    cases b with
    | false => simpa using h2
    | true =>
      simp only [if_true] at h2 ⊢
      cases hb : body ρ1 with
      | none => rw [hb] at h2; cases h2
      | some ob =>
        rw [hb] at h2
        cases ob with
        | nx ρ2 => exact runW_mono (by omega) h2
        | cnt ρ2 => exact runW_mono (by omega) h2
        | brk ρ2 => exact h2
        | ret l ρ2 => exact h2
open Classical in
noncomputable def sWhile (c : FT) (body : FS) : FS := fun ρ => if h : ∃ n o, runW c body n ρ = some o then some (Classical.choose (Classical.choose_spec h)) else none
theorem sWhile_of {c : FT} {body : FS} {n : Nat} {ρ : Rho} {o : Out} (h : runW c body n ρ = some o) : sWhile c body ρ = some o := by
  have hx : ∃ n o, runW c body n ρ = some o := ⟨n, o, h⟩
  unfold sWhile
  rw [dif_pos hx]
  have h2 := Classical.choose_spec (Classical.choose_spec hx)
  have a := runW_mono (Nat.le_max_left n (Classical.choose hx)) h
  have b := runW_mono (Nat.le_max_right n (Classical.choose hx)) h2
  rw [a] at b
  exact b.symm
theorem sWhile_run {c : FT} {body : FS} {ρ : Rho} {o : Out} (h : sWhile c body ρ = some o) : ∃ n, runW c body n ρ = some o := by
  unfold sWhile at h
  split at h
  · rename_i hx
    cases h
    exact ⟨_, Classical.choose_spec (Classical.choose_spec hx)⟩
  · cases h
theorem sj_while {K : Fr} {tc : TT} {fc : FT} {tb : TS} {fb : FS} (hc : TJ K tc fc) (hb : SJ K tb fb) : SJ K (tWhile tc tb) (sWhile fc fb) := fun ρ o hf e B U σ H I N w => by
  obtain ⟨n, hn⟩ := sWhile_run hf
  refine ⟨fun m σ' H' => ∃ ρ' U', runW fc fb m ρ' = some o ∧ SPost K e B ρ U σ H ρ' U' σ' H', ⟨n, ρ, U, hn, .refl I⟩, ?_⟩
  rintro m σ' H' ⟨ρ', U', hr, P'⟩
  cases m with
  | zero => cases hr
  | succ m =>
    obtain ⟨⟨b, ρ1⟩, h1, h2⟩ := bind_some hr
    refine hc ρ' b ρ1 h1 e B U' σ' H' P'.inv _ fun U1 H1 P1 => ?_
    have P2 := P'.trans I (.of P1)
    dsimp only at h2
    cases b with
    | false =>
      rw [if_neg (by simp)]
      simp only [Bool.false_eq_true, if_false, Option.some.injEq] at h2
      subst h2
      exact w U1 σ' H1 P2
    | true =>
      rw [if_pos rfl]
      simp only [if_true] at h2
      refine ⟨fun σ2 H2 => ∃ ρ2 U2, runW fc fb m ρ2 = some o ∧ SPost K e B ρ U σ H ρ2 U2 σ2 H2, fun σ2 H2 ⟨ρ2, U2, a, b⟩ => ⟨m, by omega, ρ2, U2, a, b⟩, ?_⟩
      cases hbo : fb ρ1 with
      | none => rw [hbo] at h2; cases h2
      | some ob =>
        rw [hbo] at h2
        refine hb ρ1 ob hbo e B U1 σ' H1 P1.inv _ ?_
        cases ob with
        | nx ρ5 => exact fun U5 σ5 H5 P6 => ⟨ρ5, U5, h2, P2.trans I P6⟩
        | cnt ρ5 => exact fun U5 σ5 H5 P6 => ⟨ρ5, U5, h2, P2.trans I P6⟩
        | brk ρ5 => cases h2; exact fun U5 σ5 H5 P6 => w U5 σ5 H5 (P2.trans I P6)
        | ret l ρ5 => cases h2; exact fun v U5 σ5 H5 P6 => w v U5 σ5 H5 (P2.trans I P6)

/-! ### list comprehensions -/
def wipeR (ρ : Rho) : List Nat → Rho
  | [] => ρ
  | v :: vs => (wipeR ρ vs).set v none
/-- the block's own slots hold no owned object ahead of it -/
def calmR (ρ : Rho) (vs : List Nat) : Bool := vs.all fun v => match ρ[v]? with
  | some (some (.ow _ _)) => false
  | _ => true
/-- behind the block: the own slots as they were -/
def backR (ρ0 ρ : Rho) : List Nat → Rho
  | [] => ρ
  | v :: vs => (backR ρ0 ρ vs).set v ((ρ0[v]?).getD none)
def lcL (vs : List Nat) (g : FV) (ft : FT) (fe : FE) : List D → List D → Rho → Option (List D × Rho)
  | [], acc, ρ => some (acc, ρ)
  | d :: r, acc, ρ => (g d ρ).bind fun ρ1 => (ft ρ1).bind fun (b, ρ2) => if b = true then (fF fe ρ2).bind fun (y, ρ3) => if acc.length < sizeLine then lcL vs g ft fe r (acc ++ [y]) (wipeR ρ3 vs) else none
      else lcL vs g ft fe r acc (wipeR ρ2 vs)
def fLc (fi : FI) (g : FV) (ft : FT) (fe : FE) (vs : List Nat) : FE := fun ρ => (fi ρ).bind fun (ds, ρ1) => if calmR ρ1 vs = true then (lcL vs g ft fe ds [] (wipeR ρ1 vs)).map fun (l, ρ2) => (.own (.lst l), backR ρ1 ρ2 vs) else none
def ftYes : FT := fun ρ => some (true, ρ)
theorem tj_yes {K : Fr} : TJ K tYes ftYes := fun ρ b ρ' h e B U σ H I Q q => by
  cases h; exact q U H (.refl I)
section
variable {K : Fr} {e : List Addr} {B : Addr → Prop} {ρ ρ' ρ1 ρ2 : Rho} {U U' U1 U2 : Addr → Bool} {σ σ' : L2.St} {H H' H1 H2 : Hp}
theorem setNone (I : Iv K e B ρ U σ H) {i : Nat} : Iv K e B (ρ.set i none) U (σ.set i none) H ∧ ∀ b, Own (ρ.set i none) (σ.set i none) b → Own ρ σ b := by
  refine ⟨⟨by simpa using I.len, fun j l hj => ?_, fun j k x y a b p hj hk pj pk => ?_, I.dom, I.bdom⟩, fun b hb => ?_⟩
  · rcases set_get hj with ⟨rfl, e1, hi⟩ | ⟨ne, hj⟩
    · cases e1
    · obtain ⟨w, h1, h2⟩ := I.slot j l hj
      exact ⟨w, by rw [List.getElem?_set_ne (fun z => ne z.symm)]; exact h1, h2⟩
  · rcases set_get hj with ⟨_, e1, _⟩ | ⟨nj, hj⟩
    · cases e1
    · rcases set_get hk with ⟨_, e1, _⟩ | ⟨nk, hk⟩
      · cases e1
      · rw [List.getElem?_set_ne (fun z => nj z.symm)] at pj
        rw [List.getElem?_set_ne (fun z => nk z.symm)] at pk
        exact I.apart j k _ _ _ _ _ hj hk pj pk
  · obtain ⟨j, x, d', h1, h2⟩ := hb
    rcases set_get h1 with ⟨_, e1, _⟩ | ⟨nj, h1⟩
    · cases e1
    · rw [List.getElem?_set_ne (fun z => nj z.symm)] at h2
      exact ⟨j, x, d', h1, h2⟩
theorem wipe_iv (I : Iv K e B ρ U σ H) : ∀ vs : List Nat, Iv K e B (wipeR ρ vs) U (wipe σ vs) H ∧ ∀ b, Own (wipeR ρ vs) (wipe σ vs) b → Own ρ σ b
  | [] => ⟨I, fun _ h => h⟩
  | v :: vs => by
    obtain ⟨a, b⟩ := wipe_iv I vs
    obtain ⟨c, d⟩ := setNone (i := v) a
    exact ⟨c, fun p h => b p (d p h)⟩
theorem wipeR_get : ∀ {vs : List Nat} {j : Nat}, j ∉ vs → (wipeR ρ vs)[j]? = ρ[j]?
  | [], _, _ => rfl
  | v :: vs, j, h => by
    simp only [List.mem_cons, not_or] at h
    show ((wipeR ρ vs).set v none)[j]? = _
    rw [List.getElem?_set_ne (fun z => h.1 z.symm), wipeR_get h.2]
theorem wipe_get : ∀ {vs : List Nat} {j : Nat}, j ∉ vs → (wipe σ vs)[j]? = σ[j]?
  | [], _, _ => rfl
  | v :: vs, j, h => by
    simp only [List.mem_cons, not_or] at h
    show ((wipe σ vs).set v none)[j]? = _
    rw [List.getElem?_set_ne (fun z => h.1 z.symm), wipe_get h.2]
theorem wipe_in : ∀ {vs : List Nat} {j : Nat}, j ∈ vs → j < σ.length → (wipe σ vs)[j]? = some none
  | v :: vs, j, h, hl => by
    show ((wipe σ vs).set v none)[j]? = _
    by_cases e : v = j
    · subst e; rw [List.getElem?_set_self (by rw [wipe_length]; exact hl)]
    · rw [List.getElem?_set_ne e]
      exact wipe_in ((List.mem_cons.mp h).resolve_left fun z => e z.symm) hl
theorem wipe_eq {σ2 : L2.St} {vs : List Nat} (hl : σ2.length = σ.length) (h : ∀ j, j ∉ vs → σ2[j]? = σ[j]?) : wipe σ2 vs = wipe σ vs := by
  refine List.ext_getElem? fun j => ?_
  by_cases hj : j ∈ vs
  · by_cases hlt : j < σ.length
    · rw [wipe_in hj hlt, wipe_in hj (by rw [hl]; exact hlt)]
    · rw [List.getElem?_eq_none (by rw [wipe_length]; omega), List.getElem?_eq_none (by rw [wipe_length]; omega)]
  · rw [wipe_get hj, wipe_get hj, h j hj]
theorem backR_len (ρ0 : Rho) : ∀ vs : List Nat, (backR ρ0 ρ vs).length = ρ.length
  | [] => rfl
  | v :: vs => by
    show ((backR ρ0 ρ vs).set v _).length = _
    rw [List.length_set, backR_len ρ0 vs]
theorem backR_get {ρ0 : Rho} : ∀ {vs : List Nat} {j : Nat}, j ∉ vs → (backR ρ0 ρ vs)[j]? = ρ[j]?
  | [], _, _ => rfl
  | v :: vs, j, h => by
    simp only [List.mem_cons, not_or] at h
    show ((backR ρ0 ρ vs).set v _)[j]? = _
    rw [List.getElem?_set_ne (fun z => h.1 z.symm), backR_get h.2]
theorem backR_in {ρ0 : Rho} : ∀ {vs : List Nat} {j : Nat}, j ∈ vs → j < ρ.length → (backR ρ0 ρ vs)[j]? = some ((ρ0[j]?).getD none)
  | v :: vs, j, h, hl => by
    show ((backR ρ0 ρ vs).set v _)[j]? = _
    by_cases e : v = j
    · subst e; rw [List.getElem?_set_self (by rw [backR_len]; exact hl)]
    · rw [List.getElem?_set_ne e]
      exact backR_in ((List.mem_cons.mp h).resolve_left fun z => e z.symm) hl
/-- out of a block: ρ1, σ ahead of it; ρ2 at its end, over the wiped slots -/
theorem back_iv (I : Iv K e B ρ1 U1 σ H1) {vs : List Nat} (hc : calmR ρ1 vs = true) (P : EPost K e B (wipeR ρ1 vs) U1 (wipe σ vs) H1 ρ2 U2 H2) : EPost K e B ρ1 U1 σ H1 (backR ρ1 ρ2 vs) U2 H2 := by
  have hw := wipe_iv I vs
  have len2 : ρ2.length = σ.length := by rw [P.inv.len, wipe_length]
  have inV : ∀ j l, j ∈ vs → (backR ρ1 ρ2 vs)[j]? = some (some l) → ∃ d, l = .fz d ∧ ρ1[j]? = some (some l) := fun j l hj h => by
    have hlt : j < ρ2.length := by
      obtain ⟨h1, _⟩ := List.getElem?_eq_some_iff.mp h
      rw [backR_len] at h1; exact h1
    rw [backR_in hj hlt] at h
    have h2 : ρ1[j]? = some (some l) := by
      cases q : ρ1[j]? with
      | none => rw [q] at h; simp at h
      | some z => rw [q] at h; simpa using h
    have h3 := List.all_eq_true.mp hc j hj
    rw [h2] at h3
    cases l with
    | fz d => exact ⟨d, rfl, h2⟩
    | ow x d => simp at h3
  have own : ∀ b, Own (backR ρ1 ρ2 vs) σ b → Own ρ2 (wipe σ vs) b := fun b ⟨j, x, d, h1, h2⟩ => by
    by_cases hj : j ∈ vs
    · obtain ⟨d', e1, _⟩ := inV j _ hj h1
      cases e1
    · rw [backR_get hj] at h1
      exact ⟨j, x, d, h1, by rw [wipe_get hj]; exact h2⟩
  refine ⟨P.stp.weak fun p _ h => hw.2 p h, ⟨?_, fun j l hj => ?_, fun j k x y a b p hj hk pj pk => ?_, P.inv.dom, P.inv.bdom⟩, fun b h => hw.2 b (P.own b (own b h))⟩
  · rw [backR_len]; exact len2
  · by_cases hv : j ∈ vs
    · obtain ⟨d, rfl, h1⟩ := inV j l hv hj
      obtain ⟨w, h2, h3⟩ := I.slot j _ h1
      exact ⟨w, h2, Rep.le P.stp.le h3⟩
    · rw [backR_get hv] at hj
      obtain ⟨w, h2, h3⟩ := P.inv.slot j l hj
      rw [wipe_get hv] at h2
      exact ⟨w, h2, h3⟩
  · by_cases hv : j ∈ vs
    · obtain ⟨d, e1, _⟩ := inV j _ hv hj; cases e1
    · by_cases hv2 : k ∈ vs
      · obtain ⟨d, e1, _⟩ := inV k _ hv2 hk; cases e1
      · rw [backR_get hv] at hj
        rw [backR_get hv2] at hk
        exact P.inv.apart j k _ _ _ _ _ hj hk (by rw [wipe_get hv]; exact pj) (by rw [wipe_get hv2]; exact pk)
end
end DV

set_option Elab.async false
set_option linter.all false
set_option maxRecDepth 100000
set_option maxHeartbeats 1000000
namespace DV
open PySem PySem.Spec PyProof.Rows L2
section
variable {K : Fr} {e : List Addr} {B : Addr → Prop} {ρ ρ' ρ1 ρ2 : Rho} {U U' U1 U2 : Addr → Bool} {σ σ' : L2.St} {H H' H1 H2 : Hp}
theorem mask_poke {p : Addr} {o : HO} (hu : U p = true) : mask U (upd H p o) = mask U H := by
  funext b
  unfold mask
  by_cases hb : b = p
  · subst hb; rw [hu]; rfl
  · rw [upd_ne hb]
/-- an owned object that no slot holds is changed -/
theorem Iv.poke (I : Iv K e B ρ U σ H) {p : Addr} {o : HO} (hu : U p = true) (hn : ¬ Own ρ σ p) : Iv K e B ρ U σ (upd H p o) := by
  refine I.mono (.of fun b x h => by rw [mask_poke hu]; exact h) (fun b hb => ⟨I.own_u hb, ?_⟩) (fun b hb => ?_) fun b h => ?_
  · exact upd_ne fun z => hn (z ▸ hb)
  · by_cases hp : b = p
    · subst hp; rw [upd_same]; simp
    · rw [upd_ne hp]; exact I.dom b hb
  · by_cases hp : b = p
    · subst hp; rw [upd_same]; simp
    · rw [upd_ne hp]; exact h
theorem EPost.poke (I : Iv K e B ρ U σ H) (P : EPost K e B ρ U σ H ρ1 U1 H1) {p : Addr} {o : HO} (hu : U1 p = true) (hn : ¬ Own ρ1 σ p) (h0 : H p = none) : EPost K e B ρ U σ H ρ1 U1 (upd H1 p o) := by
  refine ⟨⟨fun b x h1 h2 => ?_, fun b h1 h2 => ?_, fun b h => ?_⟩, P.inv.poke hu hn, P.own⟩
  · obtain ⟨a, o', c, d⟩ := P.stp.frz b x h1 h2
    exact ⟨a, o', by rw [upd_ne (fun z => by rw [z, h0] at h2; cases h2)]; exact c, d⟩
  · obtain ⟨a, c⟩ := P.stp.frm b h1 h2
    exact ⟨a, by rw [upd_ne (fun z => I.dom b h1 (by rw [z]; exact h0))]; exact c⟩
  · by_cases hp : b = p
    · subst hp; rw [upd_same]; simp
    · rw [upd_ne hp]; exact P.stp.dm b h
/-- the end of a block's turn -/
theorem EPost.wiped {σ2 : L2.St} {vs : List Nat} {ρ3 ρ4 : Rho} {U3 : Addr → Bool} {H3 : Hp} (P : EPost K e B (wipeR ρ1 vs) U1 (wipe σ vs) H1 ρ' U' H') (V : VPost K e B ρ' U' (wipe σ vs) H' vs ρ3 σ2) (Q : EPost K e B ρ3 U' σ2 H' ρ4 U3 H3) (dm : Dm U1 H1) :
    wipe σ2 vs = wipe σ vs ∧ EPost K e B (wipeR ρ1 vs) U1 (wipe σ vs) H1 (wipeR ρ4 vs) U3 H3 := by
  have hw : wipe σ2 vs = wipe σ vs := by
    refine wipe_eq ?_ fun j hj => (V.sig j hj).trans (wipe_get hj)
    rw [V.len, wipe_length]
  refine ⟨hw, ?_⟩
  obtain ⟨a, b⟩ := wipe_iv Q.inv vs
  rw [hw] at a b
  exact ⟨P.stp.trans dm Q.stp fun p h => .inl (P.own p (V.own p h)), a, fun p h => P.own p (V.own p (Q.own p (b p h)))⟩
end
theorem VPost.sub {K : Fr} {e : List Addr} {B : Addr → Prop} {ρ ρ' : Rho} {U : Addr → Bool} {σ σ' : L2.St} {H : Hp} {is vs : List Nat} (V : VPost K e B ρ U σ H is ρ' σ') (h : ∀ j ∈ is, j ∈ vs) : VPost K e B ρ U σ H vs ρ' σ' :=
  ⟨V.inv, V.own, fun j hj => V.sig j fun z => hj (h j z), fun j hj => V.rho j fun z => hj (h j z), V.len⟩
theorem VPost.e {K : Fr} {e : List Addr} {B : Addr → Prop} {ρ ρ' : Rho} {U : Addr → Bool} {σ σ' : L2.St} {H : Hp} {is : List Nat} (V : VPost K e B ρ U σ H is ρ' σ') : EPost K e B ρ' U σ' H ρ' U H := .refl V.inv
theorem ej_lc {K : Fr} {wi : TI} {fi : FI} {g : TG} {gv : FV} {is vs : List Nat} {tt : TT} {ft : FT} {te : TE} {fe : FE} (hi : IJ K wi fi) (hg : VJ K g gv is) (his : ∀ j ∈ is, j ∈ vs) (ht : TJ K tt ft) (he : EJ K te fe) : EJ K (tLc wi g tt te vs) (fLc fi gv ft fe vs) := fun ρ o ρ' hf e B U σ H I Q q => by
  obtain ⟨⟨ds, ρ1⟩, h1, hf⟩ := bind_some hf
  dsimp only at hf
  split at hf
  · rename_i hcalm
    obtain ⟨⟨l, ρ2⟩, hl, hf⟩ := map_some hf
    cases hf
    refine hi ρ ds ρ1 h1 e B U σ H I _ fun J U1 H1 P1 it D hD => ?_
    have hw := wipe_iv P1.inv vs
    have nOwn : ∀ ρ' U' H', EPost K e B (wipeR ρ1 vs) U1 (wipe σ vs) H1 ρ' U' H' → ¬ Own ρ' (wipe σ vs) D := fun ρ' U' H' P z => P1.inv.dom D (hw.1.own_u (P.own D z)) hD
    refine ⟨fun i m H' => m = ds.length - i ∧ i ≤ ds.length ∧ ∃ ρ' U' accV accD, lcL vs gv ft fe (ds.drop i) accD ρ' = some (l, ρ2) ∧ EPost K e B (wipeR ρ1 vs) U1 (wipe σ vs) H1 ρ' U' H' ∧ U' D = true ∧ H' D = some (.lst accV) ∧ Reps K (mask U' H') accV accD,
      ⟨_, rfl, Nat.zero_le _, _, Uadd U1 D, [], [], hl, (Ext.newU hD P1.inv.dom).post hw.1, uadd_same, upd_same, .nil⟩, ?_⟩
    rintro i m H' ⟨rfl, hil, ρ', U', accV, accD, hr, P, hu, hH, hreps⟩
    obtain ⟨i1, i2⟩ := it U' H' P.stp.later P.inv.dom
    by_cases hlt : i < ds.length
    · obtain ⟨go, yl⟩ := i1 i hlt
      refine .inr ⟨go, fun H2 => ∃ ρ' U' accV accD, lcL vs gv ft fe (ds.drop (i + 1)) accD ρ' = some (l, ρ2) ∧ EPost K e B (wipeR ρ1 vs) U1 (wipe σ vs) H1 ρ' U' H2 ∧ U' D = true ∧ H2 D = some (.lst accV) ∧ Reps K (mask U' H2) accV accD,
        fun H2 w => ⟨ds.length - (i + 1), by omega, rfl, hlt, w⟩, fun x H3 hy => ?_⟩
      obtain ⟨E, d, hd, rd⟩ := yl x H3 hy
      rw [drop_cons hd] at hr
      obtain ⟨ρ3, h3, hr⟩ := bind_some hr
      obtain ⟨⟨b, ρ4⟩, h4, hr⟩ := bind_some hr
      have PE := P.trans hw.1 (E.post P.inv)
      refine hg d ρ' ρ3 h3 e B U' (wipe σ vs) H3 x PE.inv rd _ fun σ2 V0 => ?_
      have V := V0.sub his
      refine ⟨(EPost.wiped PE V V.e P1.inv.dom).1, ?_⟩
      have nD : ¬ Own ρ3 σ2 D := fun z => nOwn _ _ _ PE (V.own D z)
      refine ht ρ3 b ρ4 h4 e B U' σ2 H3 V.inv _ fun U4 H4 P4 => ?_
      have hD3 : H3 D = some (.lst accV) := (E.keep D _ hH).1
      obtain ⟨hu4, hD4⟩ := P4.stp.frm D hu nD
      have rs4 := (hreps.le E.le).le P4.stp.le
      dsimp only at hr
      cases b with
      | false =>
        rw [if_neg (by simp)]
        simp only [Bool.false_eq_true, if_false] at hr
        exact ⟨_, U4, accV, accD, hr, (EPost.wiped PE V P4 P1.inv.dom).2, hu4, hD4.trans hD3, rs4⟩
      | true =>
        rw [if_pos rfl]
        simp only [if_true] at hr
        obtain ⟨⟨y, ρ5⟩, h5, hr⟩ := bind_some hr
        dsimp only at hr
        split at hr
        · rename_i hsz
          refine fj_of he ρ4 y ρ5 h5 e B U4 σ2 H4 P4.inv _ fun yv U5 H5 P5 r5 => ?_
          have P45 := P4.trans V.inv P5
          have nD5 : ¬ Own ρ4 σ2 D := fun z => nD (P4.own D z)
          obtain ⟨hu5, hD5⟩ := P5.stp.frm D hu4 nD5
          have e5 : H5 D = some (.lst accV) := hD5.trans (hD4.trans hD3)
          have rs5 := rs4.le P5.stp.le
          refine ⟨accV, e5, by rw [rs5.length]; exact hsz, ?_⟩
          have W5 := (EPost.wiped PE V P45 P1.inv.dom).2
          refine ⟨_, U5, accV ++ [yv], accD ++ [y], hr, W5.poke hw.1 hu5 (nOwn _ _ _ W5) hD, hu5, upd_same, ?_⟩
          rw [mask_poke hu5]
          exact rs5.append (.cons r5 .nil)
        · cases hr
    · have e1 : i = ds.length := by omega
      subst e1
      rw [List.drop_length] at hr
      cases hr
      have PB := back_iv P1.inv hcalm P
      refine .inl ⟨i2 _ (Nat.le_refl _), q _ U' H' (P1.trans I PB) ⟨D, rfl, hu, ⟨accV, hH, hreps⟩, fun z => ?_, ?_⟩⟩
      · exact P1.inv.dom D (P1.inv.own_u (PB.own D z)) hD
      · exact Classical.byContradiction fun z => P1.stp.dm D z hD
  · cases hf
/-! ### two, three names at once -/
section
variable {K : Fr} {e : List Addr} {B : Addr → Prop} {ρ ρ' ρ1 ρ2 : Rho} {U U' U1 U2 : Addr → Bool} {σ σ' : L2.St} {H H' H1 H2 H0 : Hp} {v : V} {o : Op}
/-- one store, by itself -/
theorem gN_step {i : Nat} (I : Iv K e B ρ U σ H) (r : ROp K ρ U σ H H0 v o) (hB : ∀ b, B b → H0 b ≠ none) (h : gN i o ρ = some ρ') :
    ∃ U', Iv K e B ρ' U' (σ.set i (some v)) H ∧ (∀ b, U' b = true → U b = true) ∧ (∀ b, U b = true → U' b = false → Own ρ σ b) ∧ ∀ b, Own ρ' (σ.set i (some v)) b → Own ρ σ b ∨ (∃ d, o = .own d) ∧ v = .ref b := by
  cases o with
  | val d =>
    cases h
    have g := setFz I (i := i) r
    exact ⟨U, g.inv, fun _ h => h, fun b h1 h2 => (by rw [h1] at h2; cases h2), fun b hb => .inl (g.own b hb)⟩
  | own d =>
    cases h
    obtain ⟨p, rfl, hu, hr, hn, h0⟩ := r
    obtain ⟨g1, g2⟩ := setOw (i := i) I (fun z => hB p z h0) hu hr hn
    exact ⟨U, g1, fun _ h => h, fun b h1 h2 => (by rw [h1] at h2; cases h2), fun b hb => (g2 b hb).elim .inl fun z => .inr ⟨⟨d, rfl⟩, by rw [z]⟩⟩
  | slot j =>
    obtain ⟨⟨d, ρ3⟩, h1, h2⟩ := map_some h
    cases h2
    have r' : σ[j]? = some (some v) := r
    simp only [frz] at h1
    split at h1
    · rename_i x hx
      cases h1
      obtain ⟨w, q1, q2⟩ := I.slot j _ hx
      rw [r'] at q1; cases q1
      have g := setFz I (i := i) q2
      exact ⟨U, g.inv, fun _ h => h, fun b h1 h2 => (by rw [h1] at h2; cases h2), fun b hb => .inl (g.own b hb)⟩
    · rename_i x hx
      cases h1
      obtain ⟨w, q1, p, q2, hu, _⟩ := I.slot j _ hx
      rw [r'] at q1; cases q1; cases q2
      obtain ⟨p1, p2⟩ := I.freeze hx r'
      have g := setFz p1.inv (i := i) p2
      refine ⟨_, g.inv, fun b hb => ?_, fun b h1 h2 => ?_, fun b hb => .inl (p1.own b (g.own b hb))⟩
      · by_cases hp : b = p
        · rw [hp, udel_same] at hb; cases hb
        · rw [udel_ne hp] at hb; exact hb
      · by_cases hp : b = p
        · rw [hp]; exact ⟨j, _, _, hx, r'⟩
        · rw [udel_ne hp, h1] at h2; cases h2
    · cases h1
theorem EPost.st (P : EPost K e B ρ U σ H ρ1 U1 H1) {σ' : L2.St} {U2 : Addr → Bool} (I : Iv K e B ρ2 U2 σ' H1) (a : ∀ b, U2 b = true → U1 b = true) (b : ∀ b, U1 b = true → U2 b = false → Own ρ1 σ b ∨ H b = none) (dm : Dm U H) (c : ∀ b, Own ρ2 σ' b → Own ρ1 σ b ∨ H b = none) : SPost K e B ρ U σ H ρ2 U2 σ' H1 := by
  refine ⟨⟨fun x o h1 h2 => ?_, fun x h1 h2 => ?_, P.stp.dm⟩, I, fun x hx => (c x hx).elim (fun z => .inl (P.own x z)) .inr⟩
  · obtain ⟨z, w⟩ := P.stp.frz x o h1 h2
    refine ⟨?_, w⟩
    cases q : U2 x with
    | false => rfl
    | true => rw [a x q] at z; cases z
  · obtain ⟨z, w⟩ := P.stp.frm x h1 h2
    refine ⟨?_, w⟩
    cases q : U2 x with
    | true => rfl
    | false => exact (b x z q).elim (fun y => absurd (P.own x y) h2) fun y => absurd y (dm x h1)
/-- an operand while another name is set -/
theorem ROp.set {i : Nat} {o2 : Op} {u : V} (r : ROp K ρ U σ H H0 u o2) (le : ∀ b, U' b = true → U b = true) (nf : ∀ b, U b = true → U' b = false → Own ρ σ b) (ow : ∀ b, Own ρ' (σ.set i (some v)) b → Own ρ σ b ∨ v = .ref b ∧ H0 b ≠ none) (hs : o2 ≠ .slot i) : ROp K ρ' U' (σ.set i (some v)) H H0 u o2 := by
  have lm : Le K (mask U H) (mask U' H) := .of fun b x hb => by
    obtain ⟨p1, p2⟩ := mask_some hb
    rw [mask_of]
    · exact p2
    · cases q : U' b with
      | false => rfl
      | true => rw [le b q] at p1; cases p1
  cases o2 with
  | val d => exact Rep.le lm r
  | slot k =>
    show (σ.set i (some v))[k]? = _
    rw [List.getElem?_set_ne (fun z => hs (by rw [z]))]
    exact r
  | own d =>
    obtain ⟨p, rfl, hu, hr, hn, h0⟩ := r
    refine ⟨p, rfl, ?_, hr.le lm rfl, fun z => ?_, h0⟩
    · cases q : U' p with
      | true => rfl
      | false => exact absurd (nf p hu q) hn
    · rcases ow p z with z | ⟨_, z⟩
      · exact hn z
      · exact z h0
end
/-- a, b = e1, e2 -/
def sPar (i j : Nat) (f g : FE) : FS := fun ρ => (f ρ).bind fun (o, ρ1) => (g ρ1).bind fun (o2, ρ2) => (gN i o ρ2).bind fun ρ3 => match o2 with
  | .slot k => if k = i then none else (gN j (.slot k) ρ3).map fun ρ4 => .nx ρ4
  | o2 => (gN j o2 ρ3).map fun ρ4 => .nx ρ4
theorem ROp.ne {K : Fr} {ρ : Rho} {U : Addr → Bool} {σ : L2.St} {H H0 : Hp} {v : V} {b : Addr} {d : D} (r : ROp K ρ U σ H H0 v (.own d)) (h : v = .ref b) : H b ≠ none := by
  obtain ⟨p, e1, _, hr, _⟩ := r
  rw [h] at e1; cases e1
  exact hr.some
theorem ROp.old {K : Fr} {ρ : Rho} {U : Addr → Bool} {σ : L2.St} {H H0 : Hp} {v : V} {b : Addr} {o : Op} (r : ROp K ρ U σ H H0 v o) (h : (∃ d, o = .own d) ∧ v = .ref b) : H0 b = none := by
  obtain ⟨⟨d, rfl⟩, h⟩ := h
  obtain ⟨p, e1, _, hr, _, h0⟩ := r
  rw [h] at e1; cases e1
  exact h0
theorem sj_par {K : Fr} {i j : Nat} {ta tb : TE} {f g : FE} (ha : EJ K ta f) (hb : EJ K tb g) : SJ K (tPar i j (tCons ta (tCons tb tNil))) (sPar i j f g) := fun ρ o hf e B U σ H I N w => by
  obtain ⟨⟨o1, ρ1⟩, h1, hf⟩ := bind_some hf
  obtain ⟨⟨o2, ρ2⟩, h2, hf⟩ := bind_some hf
  obtain ⟨ρ3, h3, hf⟩ := bind_some hf
  have hk : o2 ≠ .slot i ∧ ∃ ρ4, gN j o2 ρ3 = some ρ4 ∧ .nx ρ4 = o := by
    cases o2 with
    | val d => obtain ⟨ρ4, a, b⟩ := map_some hf; exact ⟨by simp, ρ4, a, b⟩
    | own d => obtain ⟨ρ4, a, b⟩ := map_some hf; exact ⟨by simp, ρ4, a, b⟩
    | slot k =>
      dsimp only at hf
      split at hf
      · cases hf
      · rename_i hk
        obtain ⟨ρ4, a, b⟩ := map_some hf
        exact ⟨fun z => hk (by cases z; rfl), ρ4, a, b⟩
  obtain ⟨hs, ρ4, h4, rfl⟩ := hk
  refine ha ρ o1 ρ1 h1 e B U σ H I _ fun v U1 H1 P1 r1 => hb ρ1 o2 ρ2 h2 e B U1 σ H1 P1.inv _ fun u U2 H2 P2 r2 => ?_
  refine ⟨v, u, rfl, ?_⟩
  have P := P1.trans I P2
  have r1' := r1.step P2
  have d0 : ∀ b, H b ≠ none → H1 b ≠ none := P1.stp.dm
  obtain ⟨U3, I3, a3, b3, c3⟩ := gN_step P.inv r1' I.bdom h3
  have r2' : ROp K ρ3 U3 (σ.set i (some v)) H2 H1 u o2 := r2.set a3 b3 (fun b hb => (c3 b hb).elim .inl fun ⟨⟨d, hd⟩, z⟩ => .inr ⟨z, by subst hd; exact r1.ne z⟩) hs
  obtain ⟨U4, I4, a4, b4, c4⟩ := gN_step I3 r2' (fun b z => d0 b (I.bdom b z)) h4
  refine w U4 _ H2 (P.st I4 (fun b z => a3 b (a4 b z)) (fun b z1 z2 => ?_) I.dom fun b z => ?_)
  · cases q : U3 b with
    | false => exact .inl (b3 b z1 q)
    | true =>
      rcases c3 b (b4 b q z2) with y | y
      · exact .inl y
      · exact .inr (r1'.old y)
  · rcases c4 b z with y | y
    · rcases c3 b y with y | y
      · exact .inl y
      · exact .inr (r1'.old y)
    · exact .inr (Classical.byContradiction fun x => d0 b x (r2.old y))
end DV

set_option Elab.async false
set_option linter.all false
set_option maxRecDepth 100000
set_option maxHeartbeats 1000000
namespace DV
open PySem PySem.Spec PyProof.Rows L2
/-! ### an owned object of a slot is changed -/
section
variable {K : Fr} {e : List Addr} {B : Addr → Prop} {ρ ρ' ρ1 ρ2 : Rho} {U U' U1 U2 : Addr → Bool} {σ σ' : L2.St} {H H' H1 H2 H0 : Hp} {v : V} {o : Op} {d d' : D}
theorem SlotOk.w {l : L} (h : SlotOk K e B U H v l) : match l with | .fz d => True | .ow x d => ∃ p, v = .ref p ∧ U p = true ∧ RepO K U H p d := by
  cases l with
  | fz d => trivial
  | ow x d => obtain ⟨p, a, b, c, _⟩ := h; exact ⟨p, a, b, c⟩
theorem Iv.put (I : Iv K e B ρ U σ H) {i : Nat} {x : Option Nat} {p : Addr} {u : HO} (h : ρ[i]? = some (some (.ow x d))) (hp : σ[i]? = some (some (.ref p))) (hr : RepO K U (upd H p u) p d') : EPost K e B ρ U σ H (ρ.set i (some (.ow x d'))) U (upd H p u) := by
  obtain ⟨w, h1, q, h2, hu, hr0, hx⟩ := I.slot i _ h
  rw [hp] at h1; cases h1; cases h2
  have ho : Own ρ σ p := ⟨i, x, d, h, hp⟩
  have hi : i < ρ.length := (List.getElem?_eq_some_iff.mp h).1
  refine ⟨⟨fun b o h1 h2 => ⟨h1, o, ?_, .refl o⟩, fun b h1 h2 => ⟨h1, upd_ne fun z => h2 (z ▸ ho)⟩, fun b hb => ?_⟩, ⟨by simpa using I.len, fun j l hj => ?_, fun j k a b c d2 r hj hk pj pk => ?_, fun b hb => ?_, fun b hb => ?_⟩, fun b hb => ?_⟩
  · rw [upd_ne (fun z => by rw [z, hu] at h1; cases h1)]; exact h2
  · by_cases hbp : b = p
    · subst hbp; rw [upd_same]; simp
    · rw [upd_ne hbp]; exact hb
  · by_cases ej : j = i
    · subst ej
      rw [List.getElem?_set_self hi] at hj
      cases hj
      exact ⟨_, hp, p, rfl, hu, hr, hx⟩
    · rw [List.getElem?_set_ne (fun z => ej z.symm)] at hj
      obtain ⟨w, h3, h4⟩ := I.slot j l hj
      refine ⟨w, h3, ?_⟩
      cases l with
      | fz d => exact (by rw [mask_poke hu]; exact h4 : Rep K (mask U (upd H p u)) w d)
      | ow y d =>
        obtain ⟨r, rfl, hu', hr', hx'⟩ := h4
        have rp : r ≠ p := fun z => ej (I.apart j i _ _ _ _ _ hj h h3 (by rw [z]; exact hp))
        exact ⟨r, rfl, hu', hr'.le (by rw [mask_poke hu]; exact .refl) (upd_ne rp), hx'⟩
  · by_cases ej : j = i
    · by_cases ek : k = i
      · rw [ej, ek]
      · subst ej
        rw [List.getElem?_set_ne (fun z => ek z.symm)] at hk
        exact I.apart _ _ _ _ _ _ _ h hk pj pk
    · rw [List.getElem?_set_ne (fun z => ej z.symm)] at hj
      by_cases ek : k = i
      · subst ek
        exact I.apart _ _ _ _ _ _ _ hj h pj pk
      · rw [List.getElem?_set_ne (fun z => ek z.symm)] at hk
        exact I.apart _ _ _ _ _ _ _ hj hk pj pk
  · by_cases hbp : b = p
    · subst hbp; rw [upd_same]; simp
    · rw [upd_ne hbp]; exact I.dom b hb
  · by_cases hbp : b = p
    · subst hbp; rw [upd_same]; simp
    · rw [upd_ne hbp]; exact I.bdom b hb
  · obtain ⟨j, y, d2, h3, h4⟩ := hb
    by_cases ej : j = i
    · subst ej
      exact ⟨j, x, d, h, h4⟩
    · rw [List.getElem?_set_ne (fun z => ej z.symm)] at h3
      exact ⟨j, y, d2, h3, h4⟩
end
/-- the owned content of a slot -/
def owd (ρ : Rho) (i : Nat) : Option (Option Nat × D) := match ρ[i]? with
  | some (some (.ow x d)) => some (x, d)
  | _ => none
theorem owd_some {ρ : Rho} {i : Nat} {x : Option Nat} {d : D} (h : owd ρ i = some (x, d)) : ρ[i]? = some (some (.ow x d)) := by
  unfold owd at h
  split at h
  · rename_i a b c; cases h; exact c
  · cases h
/-- a method that changes its object: new content, answer -/
def MJ (K : Fr) (T : String) (r : V → List V → Hp → VK → Prop) (g : D → List D → Option (D × D)) : Prop := ∀ d ds d' a, g d ds = some (d', a) → ∀ U H p vs, Dm U H → U p = true → RepO K U H p d →
  Reps K (mask U H) vs ds → ∀ Q : VK, (∀ v u, RepO K U (upd H p u) p d' → Rep K (mask U H) v a → Q v (upd H p u)) → r (.ref p) vs H Q
def TyO (K : Fr) (T : String) (g : D → List D → Option (D × D)) : Prop := ∀ d ds z, g d ds = some z → ∀ U H p, RepO K U H p d → tyV K T (.ref p) H
/-- the type of an owned object -/
def isTy (T : String) : D → Bool
  | .lst _ => T == "list"
  | .dK _ => T == "dict"
  | .dT _ => T == "dict"
  | _ => false
theorem tyO {K : Fr} {T : String} {U : Addr → Bool} {H : Hp} {p : Addr} {d : D} (h : isTy T d = true) (r : RepO K U H p d) : tyV K T (.ref p) H := by
  cases d with
  | lst l =>
    obtain ⟨xs, a, _⟩ := r
    have e : T = "list" := by simpa [isTy] using h
    exact .inl ⟨e, _, SqL.of a⟩
  | dK l =>
    obtain ⟨xs, a, _⟩ := r
    have e : T = "dict" := by simpa [isTy] using h
    exact .inr (.inr (.inl ⟨e, .inl ⟨_, a⟩⟩))
  | dT l =>
    obtain ⟨xs, a, _⟩ := r
    have e : T = "dict" := by simpa [isTy] using h
    exact .inr (.inr (.inl ⟨e, .inr ⟨_, a⟩⟩))
  | _ => simp [isTy] at h
def fMut (T : String) (i : Nat) (g : D → List D → Option (D × D)) (fa : FA) : FE := fun ρ => (owd ρ i).bind fun (_, d0) => if isTy T d0 = true then (fa ρ).bind fun (os, ρ1) => (dVals os).bind fun ds => (owd ρ1 i).bind fun (x, d) => (g d ds).map fun (d', a) => (.val a, ρ1.set i (some (.ow x d'))) else none
theorem Iv.ow {K : Fr} {e : List Addr} {B : Addr → Prop} {ρ : Rho} {U : Addr → Bool} {σ : L2.St} {H : Hp} (I : Iv K e B ρ U σ H) {i : Nat} {x : Option Nat} {d : D} (h : owd ρ i = some (x, d)) : ∃ p, σ[i]? = some (some (.ref p)) ∧ U p = true ∧ RepO K U H p d := by
  obtain ⟨w, h1, p, rfl, hu, hr, _⟩ := I.slot i _ (owd_some h)
  exact ⟨p, h1, hu, hr⟩
theorem ej_mut {K : Fr} {T : String} {i : Nat} {r : V → List V → Hp → VK → Prop} {g : D → List D → Option (D × D)} {ta : TA} {fa : FA} (m : MJ K T r g) (ha : AJ K ta fa) : EJ K (tBM K T r (tVar i) ta) (fMut T i g fa) := fun ρ o ρ' hf e B U σ H I Q q => by
  obtain ⟨⟨x0, d0⟩, h0, hf⟩ := bind_some hf
  dsimp only at hf
  split at hf
  · rename_i ht
    obtain ⟨⟨os, ρ1⟩, h1, hf⟩ := bind_some hf
    obtain ⟨ds, h2, hf⟩ := bind_some hf
    obtain ⟨⟨x, d⟩, h3, hf⟩ := bind_some hf
    obtain ⟨⟨d', a⟩, h4, hf⟩ := map_some hf
    cases hf
    obtain ⟨p, hp, hu, hr⟩ := I.ow h0
    refine ⟨_, hp, tyO ht hr, ha ρ os ρ1 h1 e B U σ H I _ fun vs U1 H1 P r1 => ?_⟩
    obtain ⟨p', hp', hu', hr'⟩ := P.inv.ow h3
    rw [hp] at hp'; cases hp'
    refine m d ds d' a h4 U1 H1 p vs P.inv.dom hu' hr' (r1.vals h2) Q fun v u ho hv => ?_
    have E := P.inv.put (owd_some h3) hp ho
    exact q v U1 _ (P.trans I E) (show Rep K _ v a by rw [mask_poke hu']; exact hv)
  · cases hf
theorem ej_mut0 {K : Fr} {T : String} {i : Nat} {r : V → List V → Hp → VK → Prop} {g : D → List D → Option (D × D)} (m : MJ K T r g) : EJ K (tBM0 K T r (tVar i)) (fMut T i g aNil) := fun ρ o ρ' hf e B U σ H I Q q => by
  obtain ⟨⟨x0, d0⟩, h0, hf⟩ := bind_some hf
  dsimp only at hf
  split at hf
  · rename_i ht
    obtain ⟨⟨os, ρ1⟩, h1, hf⟩ := bind_some hf
    cases h1
    obtain ⟨ds, h2, hf⟩ := bind_some hf
    cases h2
    obtain ⟨⟨x, d⟩, h3, hf⟩ := bind_some hf
    obtain ⟨⟨d', a⟩, h4, hf⟩ := map_some hf
    cases hf
    obtain ⟨p, hp, hu, hr⟩ := I.ow h0
    obtain ⟨p', hp', hu', hr'⟩ := I.ow h3
    rw [hp] at hp'; cases hp'
    refine ⟨_, hp, tyO ht hr, ?_⟩
    refine m d [] d' a h4 U H p [] I.dom hu' hr' .nil Q fun v u ho hv => ?_
    exact q v U _ (I.put (owd_some h3) hp ho) (show Rep K _ v a by rw [mask_poke hu']; exact hv)
  · cases hf
/-- how a new list is owned at the place of the old one -/
theorem repO_lst {K : Fr} {U : Addr → Bool} {H : Hp} {p : Addr} {xs : List V} {ds : List D} (hu : U p = true) (r : Reps K (mask U H) xs ds) : RepO K U (upd H p (.lst xs)) p (.lst ds) := ⟨xs, upd_same, by rw [mask_poke hu]; exact r⟩
theorem repO_dT {K : Fr} {U : Addr → Bool} {H : Hp} {p : Addr} {xs : List (List Key × V)} {ds : List (List Key × D)} (hu : U p = true) (k : xs.map (·.1) = ds.map (·.1)) (r : Reps K (mask U H) (xs.map (·.2)) (ds.map (·.2))) : RepO K U (upd H p (.dT xs)) p (.dT ds) := ⟨xs, upd_same, k, by rw [mask_poke hu]; exact r⟩
theorem repO_dK {K : Fr} {U : Addr → Bool} {H : Hp} {p : Addr} {xs : List (Key × V)} {ds : List (Key × D)} (hu : U p = true) (k : xs.map (·.1) = ds.map (·.1)) (r : Reps K (mask U H) (xs.map (·.2)) (ds.map (·.2))) : RepO K U (upd H p (.dK xs)) p (.dK ds) := ⟨xs, upd_same, k, by rw [mask_poke hu]; exact r⟩

/-! ### append, extend, pop, insert .. -/
def gAppend : D → List D → Option (D × D)
  | .lst ds, [y] => if ds.length < sizeLine then some (.lst (ds ++ [y]), .non) else none
  | _, _ => none
def gExtend : D → List D → Option (D × D)
  | .lst ds, [.lst es] => if ds.length + es.length ≤ sizeLine then some (.lst (ds ++ es), .non) else none
  | _, _ => none
def gPop : D → List D → Option (D × D)
  | .lst ds, [] => (ds.getLast?).map fun y => (.lst ds.dropLast, y)
  | _, _ => none
def gPopAt : D → List D → Option (D × D)
  | .lst ds, [.int i] => if -(2 ^ 63) ≤ i ∧ i < 2 ^ 63 then (seqIndex? i ds.length).bind fun k => (ds[k]?).map fun y => (.lst (ds.eraseIdx k), y) else none
  | _, _ => none
def gReverse : D → List D → Option (D × D)
  | .lst ds, [] => some (.lst ds.reverse, .non)
  | _, _ => none
theorem Reps.dropLast {K : Fr} {G : Hp} : ∀ {vs : List V} {ds : List D}, Reps K G vs ds → Reps K G vs.dropLast ds.dropLast := fun {vs ds} r => by
  rw [List.dropLast_eq_take, List.dropLast_eq_take, r.length]
  exact r.take _
theorem Reps.reverse {K : Fr} {G : Hp} {vs : List V} : ∀ {ds : List D}, Reps K G vs ds → Reps K G vs.reverse ds.reverse := by
  induction vs with
  | nil => intro ds h; cases h; exact .nil
  | cons v vs ih =>
    intro ds h
    cases h with
    | cons r t =>
      rw [List.reverse_cons, List.reverse_cons]
      exact (ih t).append (.cons r .nil)
theorem Reps.eraseIdx {K : Fr} {G : Hp} {vs : List V} : ∀ {ds : List D} {k : Nat}, Reps K G vs ds → Reps K G (vs.eraseIdx k) (ds.eraseIdx k) := by
  induction vs with
  | nil => intro ds k h; cases h; exact .nil
  | cons v vs ih =>
    intro ds k h
    cases h with
    | cons r t =>
      cases k with
      | zero => exact t
      | succ k => exact .cons r (ih t)
section
variable {K : Fr}
theorem mj_append : MJ K "list" rAppend gAppend := fun d ds d' a h U H p vs dm hu ho r Q q => by
  unfold gAppend at h
  split at h
  · split at h
    · rename_i l y hz
      cases h
      obtain ⟨xs, h1, h2⟩ := ho
      cases r with
      | cons r t =>
        cases t
        exact ⟨p, xs, _, rfl, rfl, h1, by rw [h2.length]; exact hz, q _ _ (repO_lst hu (h2.append (.cons r .nil))) .non⟩
    · cases h
  · cases h
theorem mj_extend : MJ K "list" rExtend gExtend := fun d ds d' a h U H p vs dm hu ho r Q q => by
  unfold gExtend at h
  split at h
  · split at h
    · rename_i l y hz
      cases h
      obtain ⟨xs, h1, h2⟩ := ho
      cases r with
      | cons r t =>
        cases t
        cases r with
        | lst hb rb =>
          exact ⟨p, _, xs, _, rfl, rfl, h1, (mask_some hb).2, by rw [h2.length, rb.length]; exact hz, q _ _ (repO_lst hu (h2.append rb)) .non⟩
    · cases h
  · cases h
theorem mj_pop : MJ K "list" rPop gPop := fun d ds d' a h U H p vs dm hu ho r Q q => by
  unfold gPop at h
  split at h
  · rename_i l
    obtain ⟨y, h1, h2⟩ := map_some h
    cases h2
    cases r
    obtain ⟨xs, h3, h4⟩ := ho
    rw [List.getLast?_eq_getElem?] at h1
    obtain ⟨v, h5, h6⟩ := h4.get h1
    exact ⟨p, xs, v, rfl, rfl, h3, by rw [h4.length]; exact h5, q _ _ (repO_lst hu h4.dropLast) h6⟩
  · cases h
theorem mj_popAt : MJ K "list" rPopAt gPopAt := fun d ds d' a h U H p vs dm hu ho r Q q => by
  unfold gPopAt at h
  split at h
  · split at h
    · rename_i l i hi
      obtain ⟨k, hk, h⟩ := bind_some h
      obtain ⟨y, h1, h2⟩ := map_some h
      cases h2
      obtain ⟨xs, h3, h4⟩ := ho
      obtain ⟨v, h5, h6⟩ := h4.get h1
      cases r with
      | cons r t =>
        cases t; cases r
        exact ⟨p, xs, i, k, v, rfl, rfl, h3, hi.1, hi.2, by rw [h4.length]; exact hk, h5, q _ _ (repO_lst hu h4.eraseIdx) h6⟩
    · cases h
  · cases h
theorem mj_reverse : MJ K "list" rReverse gReverse := fun d ds d' a h U H p vs dm hu ho r Q q => by
  unfold gReverse at h
  split at h
  · cases h
    cases r
    obtain ⟨xs, h3, h4⟩ := ho
    exact ⟨p, xs, rfl, rfl, h3, q _ _ (repO_lst hu h4.reverse) .non⟩
  · cases h
end

/-! ### xs[i] = v, xs[i] op= v -/
def setD (d : D) (k : Int) (y : D) : Option D := match d with
  | .lst ds => (ixN ds.length k).map fun j => .lst (ds.set j y)
  | _ => none
/-- var i, at the index of f, gets the value of fv (asked first) -/
def sPutL (i : Nat) (f fv : FE) : FS := fun ρ => (fF fv ρ).bind fun (y, ρ1) => (owd ρ1 i).bind fun _ => (f ρ1).bind fun (o, ρ2) => match o with
  | .val (.int k) => (owd ρ2 i).bind fun (x, d) => (setD d k y).map fun d' => .nx (ρ2.set i (some (.ow x d')))
  | _ => none
theorem rop_int {K : Fr} {ρ : Rho} {U : Addr → Bool} {σ : L2.St} {H H0 : Hp} {v : V} {b : Int} (h : ROp K ρ U σ H H0 v (.val (.int b))) : v = .int b := by
  have h' : Rep K (mask U H) v (.int b) := h
  cases h'; rfl
theorem setD_ok {K : Fr} {U : Addr → Bool} {H : Hp} {p : Addr} {d d' y : D} {k : Int} {v : V} (hu : U p = true) (h : setD d k y = some d') (ho : RepO K U H p d) (r : Rep K (mask U H) v y) :
    ∃ xs j, H p = some (.lst xs) ∧ ixN xs.length k = some j ∧ RepO K U (upd H p (.lst (xs.set j v))) p d' := by
  unfold setD at h
  split at h
  · obtain ⟨j, h1, h2⟩ := map_some h
    cases h2
    obtain ⟨xs, h3, h4⟩ := ho
    exact ⟨xs, j, h3, by rw [h4.length]; exact h1, repO_lst hu (h4.set r)⟩
  · cases h
theorem sj_putL {K : Fr} {i : Nat} {ti te : TE} {f fv : FE} (hi : EJ K ti f) (hv : EJ K te fv) : SJ K (tAsg te (gSub (tVar i) ti rSetL)) (sPutL i f fv) := fun ρ o hf e B U σ H I N w => by
  obtain ⟨⟨y, ρ1⟩, h1, hf⟩ := bind_some hf
  obtain ⟨⟨x0, d0⟩, h2, hf⟩ := bind_some hf
  obtain ⟨⟨o2, ρ2⟩, h3, hf⟩ := bind_some hf
  dsimp only at hf
  split at hf
  · rename_i k
    obtain ⟨⟨x, d⟩, h4, hf⟩ := bind_some hf
    obtain ⟨d', h5, hf⟩ := map_some hf
    cases hf
    refine fj_of hv ρ y ρ1 h1 e B U σ H I _ fun v U1 H1 P1 r1 => ?_
    obtain ⟨p, hp, _⟩ := P1.inv.ow h2
    refine ⟨_, hp, hi ρ1 _ ρ2 h3 e B U1 σ H1 P1.inv _ fun kv U2 H2 P2 r2 => ?_⟩
    obtain ⟨p', hp', hu', hr'⟩ := P2.inv.ow h4
    rw [hp] at hp'; cases hp'
    have rv := Rep.le P2.stp.le r1
    obtain ⟨xs, j, a, b, c⟩ := setD_ok hu' h5 hr' rv
    refine ⟨p, xs, k, j, rfl, rop_int r2, a, b, ?_⟩
    exact w U2 σ _ (.of ((P1.trans I P2).trans I (P2.inv.put (owd_some h4) hp c)))
  · cases hf

/-! ### dicts -/
def keyOf : D → Option Key
  | .int i => some (.inl i)
  | .str s => some (.inr s)
  | _ => none
def keysOf : List D → Option (List Key)
  | [] => some []
  | d :: ds => (keyOf d).bind fun k => (keysOf ds).map fun ks => k :: ks
def keyT : D → Option (List Key)
  | .tup ds => keysOf ds
  | _ => none
def kD : Key → D
  | .inl i => .int i
  | .inr s => .str s
section
variable {κ : Type} [DecidableEq κ]
def look {α : Type} (l : List (κ × α)) (k : κ) : Option α := (l.find? fun kv => decide (kv.1 = k)).map (·.2)
def put {α : Type} (l : List (κ × α)) (k : κ) (y : α) : List (κ × α) :=
  if (l.any fun kv => decide (kv.1 = k)) = true then l.map (fun kv => if kv.1 = k then (kv.1, y) else kv) else l ++ [(k, y)]
theorem look_v (l : List (κ × V)) (k : κ) : valV l k = look l k := rfl
theorem put_v (l : List (κ × V)) (k : κ) (y : V) : putK l k y = put l k y := rfl
theorem look_cons {α : Type} (p : κ × α) (l : List (κ × α)) (k : κ) : look (p :: l) k = if p.1 = k then some p.2 else look l k := by
  unfold look
  rw [List.find?_cons]
  by_cases h : p.1 = k
  · simp [h]
  · simp [h]
theorem put_cons {α : Type} (p : κ × α) (l : List (κ × α)) (k : κ) (y : α) : put (p :: l) k y = if p.1 = k then (p.1, y) :: l.map (fun kv => if kv.1 = k then (kv.1, y) else kv) else p :: put l k y := by
  unfold put
  rw [List.any_cons]
  by_cases h : p.1 = k
  · simp [h]
  · by_cases h2 : (l.any fun kv => decide (kv.1 = k)) = true
    · simp [h, h2]
    · simp [h, h2]
theorem look_rep {K : Fr} {G : Hp} : ∀ {kvs : List (κ × V)} {l : List (κ × D)} (k : κ), kvs.map (·.1) = l.map (·.1) → Reps K G (kvs.map (·.2)) (l.map (·.2)) →
    (look l k = none ∧ valV kvs k = none) ∨ ∃ d v, look l k = some d ∧ valV kvs k = some v ∧ Rep K G v d
  | [], [], k, _, _ => .inl ⟨rfl, rfl⟩
  | [], _ :: _, _, h, _ => by simp at h
  | _ :: _, [], _, h, _ => by simp at h
  | p :: kvs, q :: l, k, h, r => by
    simp only [List.map_cons, List.cons.injEq] at h
    cases r with
    | cons r t =>
      rw [look_v, look_cons, look_cons]
      by_cases e : p.1 = k
      · rw [if_pos e, if_pos (h.1 ▸ e)]
        exact .inr ⟨_, _, rfl, rfl, r⟩
      · rw [if_neg e, if_neg (h.1 ▸ e)]
        exact look_rep k h.2 t
theorem map_if_rep {K : Fr} {G : Hp} {v : V} {y : D} (k : κ) (r : Rep K G v y) : ∀ {kvs : List (κ × V)} {l : List (κ × D)}, kvs.map (·.1) = l.map (·.1) → Reps K G (kvs.map (·.2)) (l.map (·.2)) →
    (kvs.map fun kv => if kv.1 = k then (kv.1, v) else kv).map (·.1) = (l.map fun kv => if kv.1 = k then (kv.1, y) else kv).map (·.1) ∧ Reps K G ((kvs.map fun kv => if kv.1 = k then (kv.1, v) else kv).map (·.2)) ((l.map fun kv => if kv.1 = k then (kv.1, y) else kv).map (·.2))
  | [], [], _, _ => ⟨rfl, .nil⟩
  | [], _ :: _, h, _ => by simp at h
  | _ :: _, [], h, _ => by simp at h
  | p :: kvs, q :: l, h, rs => by
    simp only [List.map_cons, List.cons.injEq] at h
    cases rs with
    | cons r1 t =>
      obtain ⟨a, b⟩ := map_if_rep k r h.2 t
      simp only [List.map_cons]
      by_cases e : p.1 = k
      · have e2 : q.1 = k := h.1 ▸ e
        simp only [e, e2, if_true]
        exact ⟨by rw [a], .cons r b⟩
      · have e2 : ¬ q.1 = k := h.1 ▸ e
        simp only [e, e2, if_false]
        exact ⟨by rw [a, h.1], .cons r1 b⟩
theorem put_rep {K : Fr} {G : Hp} {v : V} {y : D} (k : κ) (r : Rep K G v y) {kvs : List (κ × V)} {l : List (κ × D)} (h : kvs.map (·.1) = l.map (·.1)) (rs : Reps K G (kvs.map (·.2)) (l.map (·.2))) :
    (putK kvs k v).map (·.1) = (put l k y).map (·.1) ∧ Reps K G ((putK kvs k v).map (·.2)) ((put l k y).map (·.2)) := by
  have e : (kvs.any fun kv => decide (kv.1 = k)) = (l.any fun kv => decide (kv.1 = k)) := by
    have e1 : (kvs.any fun kv => decide (kv.1 = k)) = (kvs.map (·.1)).any fun x => decide (x = k) := by rw [List.any_map]; rfl
    have e2 : (l.any fun kv => decide (kv.1 = k)) = (l.map (·.1)).any fun x => decide (x = k) := by rw [List.any_map]; rfl
    rw [e1, e2, h]
  rw [put_v]
  unfold put
  rw [e]
  by_cases c : (l.any fun kv => decide (kv.1 = k)) = true
  · rw [if_pos c, if_pos c]
    exact map_if_rep k r h rs
  · rw [if_neg c, if_neg c]
    simp only [List.map_append, List.map_cons, List.map_nil]
    exact ⟨by rw [h], rs.append (.cons r .nil)⟩
theorem put_len {α : Type} (l : List (κ × α)) (k : κ) (y : α) : (put l k y).length ≤ l.length + 1 := by
  unfold put
  split
  · rw [List.length_map]; omega
  · rw [List.length_append]; simp
end
section
variable {K : Fr} {U : Addr → Bool} {H : Hp} {v : V} {d : D}
theorem keyOf_rep {k : Key} (h : keyOf d = some k) (r : RepB K U H v d) : v = kV k := by
  unfold keyOf at h
  split at h
  · cases h; exact r.int
  · cases h; exact r.str
  · cases h
theorem keysOf_rep {G : Hp} : ∀ {ds : List D} {vs : List V} {ks : List Key}, keysOf ds = some ks → Reps K G vs ds → vs = ks.map kV
  | [], vs, ks, h, r => by cases h; cases r; rfl
  | d :: ds, vs, ks, h, r => by
    obtain ⟨k, h1, h⟩ := bind_some h
    obtain ⟨ks', h2, h⟩ := map_some h
    cases h
    cases r with
    | cons r t =>
      have e := keysOf_rep h2 t
      rw [e]
      have e2 : ∀ {w}, Rep K G w d → w = kV k := fun {w} rw' => by
        unfold keyOf at h1
        split at h1
        · cases h1; cases rw'; rfl
        · cases h1; cases rw'; rfl
        · cases h1
      rw [e2 r]; rfl
theorem keyT_rep {ks : List Key} (h : keyT d = some ks) (r : RepB K U H v d) : ∃ b, v = .ref b ∧ H b = some (.tup (ks.map kV)) := by
  unfold keyT at h
  split at h
  · obtain ⟨a, xs, rfl, h1, h2⟩ := r.tup
    rw [keysOf_rep h h2] at h1
    exact ⟨a, rfl, h1⟩
  · cases h
/-- what a dict holds at a key: none, if the question can't be asked -/
def getD (d k : D) : Option (Option D) := match d with
  | .dT l => (keyT k).map fun ks => look l ks
  | .dK l => (keyOf k).map fun ks => look l ks
  | _ => none
def GotD (K : Fr) (U : Addr → Bool) (H : Hp) (r : Option V) : Option D → Prop
  | none => r = none
  | some y => ∃ w, r = some w ∧ Rep K (mask U H) w y
theorem getD_ok {k : D} {o : Option D} {kv : V} (h : getD d k = some o) (r : RepB K U H v d) (rk : RepB K U H kv k) : ∃ a r, v = .ref a ∧ IsD H a ∧ DGet H a kv r ∧ GotD K U H r o := by
  unfold getD at h
  split at h
  · obtain ⟨ks, h1, h2⟩ := map_some h
    subst h2
    obtain ⟨a, kvs, rfl, b1, b2, b3⟩ := r.dT
    obtain ⟨b, rfl, hb⟩ := keyT_rep h1 rk
    refine ⟨a, valV kvs ks, rfl, .inr ⟨_, b1⟩, .inr ⟨kvs, ks, b, b1, rfl, hb, rfl⟩, ?_⟩
    rcases look_rep ks b2 b3 with ⟨e1, e2⟩ | ⟨y, w, e1, e2, e3⟩
    · rw [e1, e2]; exact rfl
    · rw [e1, e2]; exact ⟨w, rfl, e3⟩
  · obtain ⟨ks, h1, h2⟩ := map_some h
    subst h2
    obtain ⟨a, kvs, rfl, b1, b2, b3⟩ := r.dK
    have e := keyOf_rep h1 rk
    subst e
    refine ⟨a, valV kvs ks, rfl, .inl ⟨_, b1⟩, .inl ⟨kvs, ks, b1, rfl, rfl⟩, ?_⟩
    rcases look_rep ks b2 b3 with ⟨e1, e2⟩ | ⟨y, w, e1, e2, e3⟩
    · rw [e1, e2]; exact rfl
    · rw [e1, e2]; exact ⟨w, rfl, e3⟩
  · cases h
/-- d[k] = y -/
def putD (d k y : D) : Option D := match d with
  | .dT l => (keyT k).bind fun ks => if l.length < sizeLine then some (.dT (put l ks y)) else none
  | .dK l => (keyOf k).bind fun ks => if l.length < sizeLine then some (.dK (put l ks y)) else none
  | _ => none
theorem map_len {κ α β : Type} {a : List (κ × α)} {b : List (κ × β)} (h : a.map (·.1) = b.map (·.1)) : a.length = b.length := by
  have := congrArg List.length h
  simpa using this
theorem putD_ok {p : Addr} {k y d' : D} {kv w : V} (hu : U p = true) (h : putD d k y = some d') (ho : RepO K U H p d) (rk : RepB K U H kv k) (r : Rep K (mask U H) w y) :
    ∃ u, DPut H p kv w (upd H p u) ∧ RepO K U (upd H p u) p d' := by
  unfold putD at h
  split at h
  · obtain ⟨ks, h1, h2⟩ := bind_some h
    split at h2
    · rename_i hz
      cases h2
      obtain ⟨kvs, b1, b2, b3⟩ := ho
      obtain ⟨b, rfl, hb⟩ := keyT_rep h1 rk
      obtain ⟨c1, c2⟩ := put_rep ks r b2 b3
      exact ⟨_, .inr ⟨kvs, ks, b, b1, rfl, hb, by rw [map_len b2]; exact hz, rfl⟩, repO_dT hu c1 c2⟩
    · cases h2
  · obtain ⟨ks, h1, h2⟩ := bind_some h
    split at h2
    · rename_i hz
      cases h2
      obtain ⟨kvs, b1, b2, b3⟩ := ho
      have e := keyOf_rep h1 rk
      subst e
      obtain ⟨c1, c2⟩ := put_rep ks r b2 b3
      exact ⟨_, .inl ⟨kvs, ks, b1, rfl, by rw [map_len b2]; exact hz, rfl⟩, repO_dK hu c1 c2⟩
    · cases h2
  · cases h
end
def fDGet (fd fk : FE) : FE := fOp2 (fun d k => (getD d k).bind fun o => o.map .val) fd fk
def fDIn (fk fd : FE) : FE := fOp2 (fun k d => (getD d k).map fun o => .val (.bl o.isSome)) fk fd
def fDNotIn (fk fd : FE) : FE := fOp2 (fun k d => (getD d k).map fun o => .val (.bl (!o.isSome))) fk fd
section
variable {K : Fr} {td ty tx : TE} {fd fk fx : FE}
theorem ej_dget (hd : EJ K td fd) (hk : EJ K ty fk) : EJ K (tDGet td ty) (fDGet fd fk) := fun ρ o ρ' hf e B U σ H I Q q => by
  obtain ⟨⟨a, ρ1⟩, h1, hf⟩ := bind_some hf
  obtain ⟨⟨b, ρ2⟩, h2, hf⟩ := bind_some hf
  obtain ⟨x, gx, hf⟩ := bind_some hf
  obtain ⟨y, gy, hf⟩ := bind_some hf
  obtain ⟨z, gz, hf⟩ := map_some hf
  obtain ⟨oo, g1, g2⟩ := bind_some gz
  obtain ⟨zd, g3, g4⟩ := map_some g2
  subst g3 g4
  cases hf
  refine hd ρ a ρ1 h1 e B U σ H I _ fun v U1 H1 P1 r1 => hk ρ1 b _ h2 e B U1 σ H1 P1.inv _ fun w U2 H2 P2 r2 => ?_
  obtain ⟨ad, r, rfl, _, dg, w1, rfl, hw⟩ := getD_ok g1 ((r1.step P2).b P2.inv gx) (r2.b P2.inv gy)
  exact ⟨ad, w1, rfl, dg, q w1 U2 H2 (P1.trans I P2) hw⟩
theorem ej_din (hk : EJ K ty fk) (hd : EJ K td fd) : EJ K (tDIn ty td) (fDIn fk fd) := fun ρ o ρ' hf e B U σ H I Q q => by
  obtain ⟨⟨a, ρ1⟩, h1, hf⟩ := bind_some hf
  obtain ⟨⟨b, ρ2⟩, h2, hf⟩ := bind_some hf
  obtain ⟨x, gx, hf⟩ := bind_some hf
  obtain ⟨y, gy, hf⟩ := bind_some hf
  obtain ⟨z, gz, hf⟩ := map_some hf
  obtain ⟨oo, g1, g2⟩ := map_some gz
  subst g2
  cases hf
  refine hk ρ a ρ1 h1 e B U σ H I _ fun v U1 H1 P1 r1 => hd ρ1 b _ h2 e B U1 σ H1 P1.inv _ fun w U2 H2 P2 r2 => ?_
  obtain ⟨ad, r, rfl, _, dg, hr⟩ := getD_ok g1 (r2.b P2.inv gy) ((r1.step P2).b P2.inv gx)
  refine ⟨ad, r, rfl, dg, q _ U2 H2 (P1.trans I P2) ?_⟩
  cases oo with
  | none => subst hr; exact .bl _
  | some y => obtain ⟨w1, rfl, _⟩ := hr; exact .bl _
theorem ej_dnotin (hk : EJ K ty fk) (hd : EJ K td fd) : EJ K (tDNotIn ty td) (fDNotIn fk fd) := fun ρ o ρ' hf e B U σ H I Q q => by
  obtain ⟨⟨a, ρ1⟩, h1, hf⟩ := bind_some hf
  obtain ⟨⟨b, ρ2⟩, h2, hf⟩ := bind_some hf
  obtain ⟨x, gx, hf⟩ := bind_some hf
  obtain ⟨y, gy, hf⟩ := bind_some hf
  obtain ⟨z, gz, hf⟩ := map_some hf
  obtain ⟨oo, g1, g2⟩ := map_some gz
  subst g2
  cases hf
  refine hk ρ a ρ1 h1 e B U σ H I _ fun v U1 H1 P1 r1 => hd ρ1 b _ h2 e B U1 σ H1 P1.inv _ fun w U2 H2 P2 r2 => ?_
  obtain ⟨ad, r, rfl, _, dg, hr⟩ := getD_ok g1 (r2.b P2.inv gy) ((r1.step P2).b P2.inv gx)
  refine ⟨ad, r, rfl, dg, q _ U2 H2 (P1.trans I P2) ?_⟩
  cases oo with
  | none => subst hr; exact .bl _
  | some y => obtain ⟨w1, rfl, _⟩ := hr; exact .bl _
/-- d.get(k, x): the object is looked at ahead of k and x; x is frozen -/
def fDGet2 (fd fk fx : FE) : FE := fun ρ => (fd ρ).bind fun (a, ρ1) => (a.get ρ1).bind fun d0 => match d0 with
  | .dT _ => (fk ρ1).bind fun (b, ρ2) => (fF fx ρ2).bind fun (x, ρ3) => (a.get ρ3).bind fun d => (b.get ρ3).bind fun k => (getD d k).map fun o => (.val (o.getD x), ρ3)
  | .dK _ => (fk ρ1).bind fun (b, ρ2) => (fF fx ρ2).bind fun (x, ρ3) => (a.get ρ3).bind fun d => (b.get ρ3).bind fun k => (getD d k).map fun o => (.val (o.getD x), ρ3)
  | _ => none
theorem ej_dget2 (hd : EJ K td fd) (hk : EJ K ty fk) (hx : EJ K tx fx) : EJ K (tDGet2 td ty tx) (fDGet2 fd fk fx) := fun ρ o ρ' hf e B U σ H I Q q => by
  obtain ⟨⟨a, ρ1⟩, h1, hf⟩ := bind_some hf
  obtain ⟨d0, h2, hf⟩ := bind_some hf
  have hf' : ((∃ l, d0 = .dT l) ∨ ∃ l, d0 = .dK l) ∧ (fk ρ1).bind (fun (b, ρ2) => (fF fx ρ2).bind fun (x, ρ3) => (a.get ρ3).bind fun d => (b.get ρ3).bind fun k => (getD d k).map fun o => (Op.val (o.getD x), ρ3)) = some (o, ρ') := by
    dsimp only at hf
    split at hf
    · exact ⟨.inl ⟨_, rfl⟩, hf⟩
    · exact ⟨.inr ⟨_, rfl⟩, hf⟩
    · cases hf
  obtain ⟨hd0, hf⟩ := hf'
  obtain ⟨⟨b, ρ2⟩, h3, hf⟩ := bind_some hf
  obtain ⟨⟨x, ρ3⟩, h4, hf⟩ := bind_some hf
  obtain ⟨d, gd, hf⟩ := bind_some hf
  obtain ⟨k, gk, hf⟩ := bind_some hf
  obtain ⟨oo, go, hf⟩ := map_some hf
  cases hf
  refine hd ρ a ρ1 h1 e B U σ H I _ fun v U1 H1 P1 r1 => ?_
  have hv : ∃ ad, v = .ref ad ∧ IsD H1 ad := by
    have rb := r1.b P1.inv h2
    rcases hd0 with ⟨l, rfl⟩ | ⟨l, rfl⟩
    · obtain ⟨ad, kvs, a1, a2, _⟩ := rb.dT; exact ⟨ad, a1, .inr ⟨kvs, a2⟩⟩
    · obtain ⟨ad, kvs, a1, a2, _⟩ := rb.dK; exact ⟨ad, a1, .inl ⟨kvs, a2⟩⟩
  obtain ⟨ad, rfl, hisd⟩ := hv
  refine ⟨ad, rfl, hisd, hk ρ1 b ρ2 h3 e B U1 σ H1 P1.inv _ fun w U2 H2 P2 r2 => fj_of hx ρ2 x _ h4 e B U2 σ H2 P2.inv _ fun u U3 H3 P3 r3 => ?_⟩
  have P23 := P2.trans P1.inv P3
  obtain ⟨ad', r, e1, _, dg, hr⟩ := getD_ok go ((r1.step P23).b P3.inv gd) ((r2.step P3).b P3.inv gk)
  cases e1
  refine ⟨r, dg, q _ U3 H3 (P1.trans I P23) ?_⟩
  cases oo with
  | none => subst hr; exact r3
  | some y => obtain ⟨w1, rfl, hw⟩ := hr; exact hw
/-- var i[key] = value (asked first) -/
def sPutD (i : Nat) (fk fv : FE) : FS := fun ρ => (fF fv ρ).bind fun (y, ρ1) => (owd ρ1 i).bind fun _ => (fF fk ρ1).bind fun (k, ρ2) => (owd ρ2 i).bind fun (x, d) => (putD d k y).map fun d' => .nx (ρ2.set i (some (.ow x d')))
theorem sj_putD {i : Nat} (hk : EJ K ty fk) (hv : EJ K tx fx) : SJ K (sDPut (tVar i) ty tx) (sPutD i fk fx) := fun ρ o hf e B U σ H I N w => by
  obtain ⟨⟨y, ρ1⟩, h1, hf⟩ := bind_some hf
  obtain ⟨⟨x0, d0⟩, h2, hf⟩ := bind_some hf
  obtain ⟨⟨k, ρ2⟩, h3, hf⟩ := bind_some hf
  obtain ⟨⟨x, d⟩, h4, hf⟩ := bind_some hf
  obtain ⟨d', h5, hf⟩ := map_some hf
  cases hf
  refine fj_of hv ρ y ρ1 h1 e B U σ H I _ fun v U1 H1 P1 r1 => ?_
  obtain ⟨p, hp, _⟩ := P1.inv.ow h2
  refine ⟨_, hp, fj_of hk ρ1 _ ρ2 h3 e B U1 σ H1 P1.inv _ fun kv U2 H2 P2 r2 => ?_⟩
  obtain ⟨p', hp', hu', hr'⟩ := P2.inv.ow h4
  rw [hp] at hp'; cases hp'
  obtain ⟨u, a, b⟩ := putD_ok hu' h5 hr' (.inl r2) (Rep.le P2.stp.le r1)
  exact ⟨p, _, rfl, a, w U2 σ _ (.of ((P1.trans I P2).trans I (P2.inv.put (owd_some h4) hp b)))⟩
/-- {}: with tuples as keys; with ints, texts -/
def fNewT : FE := fun ρ => some (.own (.dT []), ρ)
def fNewK : FE := fun ρ => some (.own (.dK []), ρ)
theorem ej_newT : EJ K tDNewT fNewT := fun ρ o ρ' hf e B U σ H I Q q => by
  cases hf
  exact fun p hp => q _ _ _ ((Ext.newU hp I.dom).post I) ((RRes.dT (xs := []) (ds := []) hp rfl .nil).op I)
theorem ej_newK : EJ K tDNewK fNewK := fun ρ o ρ' hf e B U σ H I Q q => by
  cases hf
  exact fun p hp => q _ _ _ ((Ext.newU hp I.dom).post I) ((RRes.dK (xs := []) (ds := []) hp rfl .nil).op I)
end
end DV

set_option Elab.async false
set_option linter.all false
set_option maxRecDepth 100000
set_option maxHeartbeats 1000000
namespace DV
open PySem PySem.Spec PyProof.Rows L2
/-! ### defs: what is handed in (fz: data; ow: an object that the def may change), what comes out, what the objects are then -/
abbrev FN := List L → Option (L × List L)
def ParOk (K : Fr) (U : Addr → Bool) (H : Hp) (v : V) : L → Prop
  | .fz d => Rep K (mask U H) v d
  | .ow _ d => ∃ p, v = .ref p ∧ U p = true ∧ RepO K U H p d
structure Pars (K : Fr) (U : Addr → Bool) (H : Hp) (vs : List V) (ls : List L) : Prop where
  len : vs.length = ls.length
  par : ∀ (k : Nat) (l : L), ls[k]? = some l → ∃ v, vs[k]? = some v ∧ ParOk K U H v l
  apart : ∀ (j k : Nat) (x y : Option Nat) (d d' : D) (v : V), ls[j]? = some (.ow x d) → ls[k]? = some (.ow y d') → vs[j]? = some v → vs[k]? = some v → j = k
/-- the objects that the def may change -/
def ParOwn (vs : List V) (ls : List L) (b : Addr) : Prop := ∃ (k : Nat) (x : Option Nat) (d : D), ls[k]? = some (.ow x d) ∧ vs[k]? = some (.ref b)
structure Came (K : Fr) (U : Addr → Bool) (H : Hp) (vs : List V) (ls ls' : List L) (U' : Addr → Bool) (H' : Hp) : Prop where
  stp : Stp (ParOwn vs ls) U H U' H'
  dom : Dm U' H'
  par : ∀ (k : Nat) (x : Option Nat) (d : D), ls[k]? = some (.ow x d) → ∃ y d' p, ls'[k]? = some (.ow y d') ∧ vs[k]? = some (.ref p) ∧ U' p = true ∧ RepO K U' H' p d'
def Gives (K : Fr) (U : Addr → Bool) (H H0 : Hp) (v : V) : L → Prop
  | .fz d => Rep K (mask U H) v d
  | .ow _ d => ∃ p, v = .ref p ∧ U p = true ∧ RepO K U H p d ∧ H0 p = none
/-- the promise of a def that raises nothing -/
def spF (K : Fr) (fs : FN) : Sp := fun vs H Q _ => ∃ U ls r ls', Dm U H ∧ Pars K U H vs ls ∧ fs ls = some (r, ls') ∧ ∀ v U' H', Came K U H vs ls ls' U' H' → Gives K U' H' H v r → Q v H'

/-! ### a def's body as such a function -/
def inL (k : Nat) : List L → Rho
  | [] => []
  | .fz d :: r => some (.fz d) :: inL (k + 1) r
  | .ow _ d :: r => some (.ow (some k) d) :: inL (k + 1) r
def outL (ρ : Rho) (k : Nat) : List L → Option (List L)
  | [] => some []
  | .fz d :: r => (outL ρ (k + 1) r).map fun z => .fz d :: z
  | .ow _ _ :: r => match ρ[k]? with
    | some (some (.ow (some j) d')) => if j = k then (outL ρ (k + 1) r).map fun z => .ow none d' :: z else none
    | _ => none
/-- n parameters, m slots -/
def fnS (n m : Nat) (body : FS) : FN := fun ls => if ls.length = n then (match body (inL 0 ls ++ List.replicate (m - n) none) with
    | some (.ret l ρ) => (outL ρ 0 ls).map fun z => (l, z)
    | some (.nx ρ) => (outL ρ 0 ls).map fun z => (.fz .non, z)
    | _ => none) else none
theorem inL_get : ∀ {ls : List L} {k i : Nat}, (inL k ls)[i]? = (ls[i]?).map fun l => match l with
    | .fz d => some (.fz d)
    | .ow _ d => some (.ow (some (k + i)) d)
  | [], _, _ => by simp [inL]
  | .fz d :: r, k, 0 => by simp [inL]
  | .ow x d :: r, k, 0 => by simp [inL]
  | .fz d :: r, k, i + 1 => by
    have h := inL_get (ls := r) (k := k + 1) (i := i)
    have e : k + 1 + i = k + (i + 1) := by omega
    simp only [inL, List.getElem?_cons_succ, h, e]
  | .ow x d :: r, k, i + 1 => by
    have h := inL_get (ls := r) (k := k + 1) (i := i)
    have e : k + 1 + i = k + (i + 1) := by omega
    simp only [inL, List.getElem?_cons_succ, h, e]
theorem inL_len : ∀ {ls : List L} {k : Nat}, (inL k ls).length = ls.length
  | [], _ => rfl
  | .fz d :: r, k => by simp [inL, inL_len (ls := r)]
  | .ow x d :: r, k => by simp [inL, inL_len (ls := r)]
theorem outL_get {ρ : Rho} : ∀ {ls z : List L} {k : Nat}, outL ρ k ls = some z → ∀ (i : Nat) (x : Option Nat) (d : D), ls[i]? = some (.ow x d) → ∃ d', z[i]? = some (.ow none d') ∧ ρ[k + i]? = some (some (.ow (some (k + i)) d'))
  | [], z, k, h, i, x, d, e => by simp at e
  | .fz d0 :: r, z, k, h, i, x, d, e => by
    obtain ⟨z', h1, h2⟩ := map_some h
    subst h2
    cases i with
    | zero => simp at e
    | succ i =>
      obtain ⟨d', a, b⟩ := outL_get h1 i x d (by simpa using e)
      exact ⟨d', by simpa using a, by rw [show k + (i + 1) = k + 1 + i by omega]; exact b⟩
  | .ow y d0 :: r, z, k, h, i, x, d, e => by
    simp only [outL] at h
    split at h
    · rename_i j d' hk
      split at h
      · rename_i ej
        subst ej
        obtain ⟨z', h1, h2⟩ := map_some h
        subst h2
        cases i with
        | zero => exact ⟨d', by simp, by simpa using hk⟩
        | succ i =>
          obtain ⟨d2, a, b⟩ := outL_get h1 i x d (by simpa using e)
          exact ⟨d2, by simpa using a, by rw [show j + (i + 1) = j + 1 + i by omega]; exact b⟩
      · cases h
    · cases h
section
variable {K : Fr}
/-- the caller's objects, by the parameters' places -/
def addrs : List V → List Addr
  | [] => []
  | .ref a :: r => a :: addrs r
  | _ :: r => 0 :: addrs r
theorem addrs_get : ∀ {vs : List V} {k : Nat} {a : Addr}, vs[k]? = some (.ref a) → (addrs vs)[k]? = some a
  | [], _, _, h => by simp at h
  | v :: r, 0, a, h => by
    simp only [List.getElem?_cons_zero, Option.some.injEq] at h
    subst h; rfl
  | v :: r, k + 1, a, h => by
    have h' := addrs_get (vs := r) (k := k) (a := a) (by simpa using h)
    cases v <;> simpa [addrs] using h'
/-- a body keeps its promise -/
theorem body_ok {ts : TS} {f : FS} {n : Nat} {N : List Str} (hN : n ≤ N.length) (h : SJ K ts f) {vs : List V} {H : Hp} {Q : VK} {E : XK} (hs : spF K (fnS n N.length f) vs H Q E) : ts { nx := fun _ H' => Q .non H', rt := Q } (L2.start N vs) H := by
  obtain ⟨U, ls, r, ls', dm, P, hf, q⟩ := hs
  unfold fnS at hf
  split at hf
  · rename_i hn
    have hvl : vs.length = n := P.len.trans hn
    have hst : L2.start N vs = vs.map some ++ List.replicate (N.length - n) none := by unfold L2.start; rw [hvl]
    have hlen : (inL 0 ls ++ List.replicate (N.length - n) none : Rho).length = (L2.start N vs).length := by
      rw [hst, List.length_append, List.length_append, inL_len, List.length_map, P.len, List.length_replicate, List.length_replicate]
    -- the slots at the entry
    have getS : ∀ (i : Nat) (l : L), (inL 0 ls ++ List.replicate (N.length - n) none : Rho)[i]? = some (some l) → i < n ∧ ∃ l0, ls[i]? = some l0 ∧ (match l0 with | .fz d => l = .fz d | .ow _ d => l = .ow (some i) d) := fun i l hi => by
      by_cases hi2 : i < n
      · rw [List.getElem?_append_left (by rw [inL_len, hn]; exact hi2), inL_get] at hi
        cases e : ls[i]? with
        | none => rw [e] at hi; cases hi
        | some l0 =>
          rw [e] at hi
          refine ⟨hi2, l0, rfl, ?_⟩
          cases l0 with
          | fz d => simp at hi; exact hi.symm
          | ow x d => simp at hi; exact hi.symm
      · rw [List.getElem?_append_right (by rw [inL_len, hn]; omega), List.getElem?_replicate] at hi
        split at hi <;> simp at hi
    have getV : ∀ i, i < n → (L2.start N vs)[i]? = (vs[i]?).map some := fun i hi => by
      rw [hst, List.getElem?_append_left (by rw [List.length_map, hvl]; exact hi), List.getElem?_map]
    have own0 : ∀ b, Own (inL 0 ls ++ List.replicate (N.length - n) none) (L2.start N vs) b → ParOwn vs ls b := fun b ⟨i, x, d, h1, h2⟩ => by
      obtain ⟨hi, l0, h3, h4⟩ := getS i _ h1
      rw [getV i hi] at h2
      cases l0 with
      | fz d => cases h4
      | ow y d0 =>
        refine ⟨i, y, d0, h3, ?_⟩
        cases e : vs[i]? with
        | none => rw [e] at h2; cases h2
        | some v => rw [e] at h2; cases h2; rfl
    have I0 : Iv K (addrs vs) (fun b => H b ≠ none) (inL 0 ls ++ List.replicate (N.length - n) none) U (L2.start N vs) H := by
      refine ⟨hlen, fun i l hi => ?_, fun i j x y d d' p hi hj pi pj => ?_, dm, fun p h => h⟩
      · obtain ⟨hi2, l0, h3, h4⟩ := getS i l hi
        obtain ⟨v, h5, h6⟩ := P.par i l0 h3
        refine ⟨v, by rw [getV i hi2, h5]; rfl, ?_⟩
        cases l0 with
        | fz d => subst h4; exact h6
        | ow x d =>
          subst h4
          obtain ⟨p, rfl, a, b⟩ := h6
          exact ⟨p, rfl, a, b, addrs_get h5⟩
      · obtain ⟨hi2, l0, h3, h4⟩ := getS i _ hi
        obtain ⟨hj2, l1, h5, h6⟩ := getS j _ hj
        rw [getV i hi2] at pi
        rw [getV j hj2] at pj
        cases l0 with
        | fz d => cases h4
        | ow _ _ =>
          cases l1 with
          | fz d => cases h6
          | ow _ _ =>
            have e1 : vs[i]? = some (.ref p) := by
              cases e : vs[i]? with
              | none => rw [e] at pi; cases pi
              | some v => rw [e] at pi; cases pi; rfl
            have e2 : vs[j]? = some (.ref p) := by
              cases e : vs[j]? with
              | none => rw [e] at pj; cases pj
              | some v => rw [e] at pj; cases pj; rfl
            exact P.apart i j _ _ _ _ _ h3 h5 e1 e2
    -- the end
    have fin : ∀ (l : L) (ρ : Rho) (z : List L) (v : V) (U' : Addr → Bool) (σ' : L2.St) (H' : Hp), outL ρ 0 ls = some z → SPost K (addrs vs) (fun b => H b ≠ none) (inL 0 ls ++ List.replicate (N.length - n) none) U (L2.start N vs) H ρ U' σ' H' → RetOk K (fun b => H b ≠ none) U' H' v l → Came K U H vs ls z U' H' ∧ Gives K U' H' H v l := fun l ρ z v U' σ' H' ho S hr => by
      refine ⟨⟨S.stp.weak fun p _ h => own0 p h, S.inv.dom, fun k x d hk => ?_⟩, ?_⟩
      · obtain ⟨d', a, b⟩ := outL_get ho k x d hk
        rw [Nat.zero_add] at b
        obtain ⟨w, h1, p, h2, h3, h4, h5⟩ := S.inv.slot k _ b
        obtain ⟨v0, h6, p0, h7, _⟩ := P.par k _ hk
        have e1 := addrs_get (show vs[k]? = some (.ref p0) by rw [h6, h7])
        rw [h5] at e1
        cases e1
        exact ⟨none, d', p, a, by rw [h6, h7], h3, h4⟩
      · cases l with
        | fz d => exact hr
        | ow x d =>
          obtain ⟨p, a, b, c, dd⟩ := hr
          exact ⟨p, a, b, c, Classical.byContradiction dd⟩
    split at hf
    · rename_i l ρ hb
      obtain ⟨z, ho, h2⟩ := map_some hf
      cases h2
      refine h _ _ hb (addrs vs) (fun b => H b ≠ none) U (L2.start N vs) H I0 _ fun v U' σ' H' S hr => ?_
      obtain ⟨a, b⟩ := fin _ _ _ _ _ _ _ ho S hr
      exact q v U' H' a b
    · rename_i ρ hb
      obtain ⟨z, ho, h2⟩ := map_some hf
      cases h2
      refine h _ _ hb (addrs vs) (fun b => H b ≠ none) U (L2.start N vs) H I0 _ fun U' σ' H' S => ?_
      obtain ⟨a, b⟩ := fin (.fz .non) _ _ .non _ _ _ ho S Rep.non
      exact q .non U' H' a b
    · cases hf
  · cases hf
theorem spF_len {n m : Nat} {f : FS} {vs : List V} {H : Hp} {Q : VK} {E : XK} (h : spF K (fnS n m f) vs H Q E) : vs.length = n := by
  obtain ⟨U, ls, r, ls', dm, P, hf, q⟩ := h
  unfold fnS at hf
  split at hf
  · rename_i hn; exact P.len.trans hn
  · cases hf
end

/-! ### calls -/
/-- the arguments: frozen data, or an owned slot -/
def toLs (ρ : Rho) : List Op → Option (List L)
  | [] => some []
  | .val d :: r => (toLs ρ r).map fun z => .fz d :: z
  | .slot i :: r => (owd ρ i).bind fun (_, d) => (toLs ρ r).map fun z => .ow none d :: z
  | .own _ :: _ => none
def slotsOf : List Op → List Nat
  | [] => []
  | .slot i :: r => i :: slotsOf r
  | _ :: r => slotsOf r
/-- what the slots hold behind the call -/
def backL : List Op → List L → Rho → Option Rho
  | [], _, ρ => some ρ
  | .slot i :: r, .ow _ d' :: z, ρ => (owd ρ i).bind fun (x, _) => backL r z (ρ.set i (some (.ow x d')))
  | .slot _ :: _, _, _ => none
  | _ :: r, _ :: z, ρ => backL r z ρ
  | _ :: _, [], _ => none
def resOp : L → Op
  | .fz d => .val d
  | .ow _ d => .own d
def callF (fs : FN) (os : List Op) (ρ : Rho) : Option (L × Rho) := (toLs ρ os).bind fun ls => if (slotsOf os).Nodup then (fs ls).bind fun (r, ls') => (backL os ls' ρ).map fun ρ' => (r, ρ') else none
def fCallF (fs : FN) (fa : FA) : FE := fun ρ => (fa ρ).bind fun (os, ρ1) => (callF fs os ρ1).map fun (r, ρ2) => (resOp r, ρ2)
theorem toLs_len {ρ : Rho} : ∀ {os : List Op} {ls : List L}, toLs ρ os = some ls → ls.length = os.length
  | [], ls, h => by cases h; rfl
  | .val d :: r, ls, h => by obtain ⟨z, h1, h2⟩ := map_some h; subst h2; simp [toLs_len h1]
  | .slot i :: r, ls, h => by
    obtain ⟨⟨x, d⟩, h0, h⟩ := bind_some h
    obtain ⟨z, h1, h2⟩ := map_some h; subst h2; simp [toLs_len h1]
  | .own _ :: _, ls, h => by cases h
theorem toLs_get {ρ : Rho} : ∀ {os : List Op} {ls : List L}, toLs ρ os = some ls → ∀ (k : Nat) (l : L), ls[k]? = some l → (∃ d : D, os[k]? = some (Op.val d) ∧ l = L.fz d) ∨ ∃ (i : Nat) (x : Option Nat) (d : D), os[k]? = some (Op.slot i) ∧ owd ρ i = some (x, d) ∧ l = L.ow none d
  | [], ls, h, k, l, e => by cases h; simp at e
  | .val d :: r, ls, h, k, l, e => by
    obtain ⟨z, h1, h2⟩ := map_some h
    subst h2
    cases k with
    | zero => simp at e; exact .inl ⟨d, by simp, e.symm⟩
    | succ k => simpa using toLs_get h1 k l (by simpa using e)
  | .slot i :: r, ls, h, k, l, e => by
    obtain ⟨⟨x, d⟩, h0, h⟩ := bind_some h
    obtain ⟨z, h1, h2⟩ := map_some h
    subst h2
    cases k with
    | zero => simp at e; exact .inr ⟨i, x, d, by simp, h0, e.symm⟩
    | succ k => simpa using toLs_get h1 k l (by simpa using e)
  | .own _ :: _, ls, h, k, l, e => by cases h
theorem mem_slots : ∀ {os : List Op} {k i : Nat}, os[k]? = some (.slot i) → i ∈ slotsOf os
  | [], _, _, h => by simp at h
  | o :: r, 0, i, h => by simp at h; subst h; simp [slotsOf]
  | o :: r, k + 1, i, h => by
    have := mem_slots (os := r) (k := k) (i := i) (by simpa using h)
    cases o <;> simp [slotsOf, this]
theorem slots_inj : ∀ {os : List Op} {j k i : Nat}, (slotsOf os).Nodup → os[j]? = some (.slot i) → os[k]? = some (.slot i) → j = k
  | [], _, _, _, _, h, _ => by simp at h
  | o :: r, 0, 0, i, _, _, _ => rfl
  | o :: r, 0, k + 1, i, hn, h1, h2 => by
    simp at h1; subst h1
    simp only [slotsOf, List.nodup_cons] at hn
    exact absurd (mem_slots (by simpa using h2)) hn.1
  | o :: r, j + 1, 0, i, hn, h1, h2 => by
    simp at h2; subst h2
    simp only [slotsOf, List.nodup_cons] at hn
    exact absurd (mem_slots (by simpa using h1)) hn.1
  | o :: r, j + 1, k + 1, i, hn, h1, h2 => by
    have hn' : (slotsOf r).Nodup := by
      cases o <;> simp only [slotsOf] at hn
      · exact hn
      · exact (List.nodup_cons.mp hn).2
      · exact hn
    exact congrArg (· + 1) (slots_inj (i := i) hn' (by simpa using h1) (by simpa using h2))
theorem backL_len : ∀ {os : List Op} {z : List L} {ρ ρ' : Rho}, backL os z ρ = some ρ' → ρ'.length = ρ.length
  | [], z, ρ, ρ', h => by simp only [backL, Option.some.injEq] at h; subst h; rfl
  | .slot i :: r, .ow _ d' :: z, ρ, ρ', h => by
    obtain ⟨⟨x, d⟩, h1, h2⟩ := bind_some h
    rw [backL_len h2, List.length_set]
  | .slot _ :: _, [], _, _, h => by simp [backL] at h
  | .slot _ :: _, .fz _ :: _, _, _, h => by simp [backL] at h
  | .val _ :: r, _ :: z, ρ, ρ', h => by simp only [backL] at h; exact backL_len h
  | .own _ :: r, _ :: z, ρ, ρ', h => by simp only [backL] at h; exact backL_len h
  | .val _ :: _, [], _, _, h => by simp [backL] at h
  | .own _ :: _, [], _, _, h => by simp [backL] at h
theorem backL_get : ∀ {os : List Op} {z : List L} {ρ ρ' : Rho}, (slotsOf os).Nodup → backL os z ρ = some ρ' → ∀ j, (j ∉ slotsOf os ∧ ρ'[j]? = ρ[j]?) ∨ ∃ (k : Nat) (x : Option Nat) (d : D) (y : Option Nat) (d' : D), os[k]? = some (Op.slot j) ∧ owd ρ j = some (x, d) ∧ z[k]? = some (L.ow y d') ∧ ρ'[j]? = some (some (L.ow x d'))
  | [], z, ρ, ρ', hn, h, j => by simp only [backL, Option.some.injEq] at h; subst h; exact .inl ⟨by simp [slotsOf], rfl⟩
  | .slot i :: r, .ow y d' :: z, ρ, ρ', hn, h, j => by
    simp only [slotsOf, List.nodup_cons] at hn
    obtain ⟨⟨x, d⟩, h1, h2⟩ := bind_some h
    have hlt : i < ρ.length := (List.getElem?_eq_some_iff.mp (owd_some h1)).1
    by_cases e : j = i
    · subst e
      rcases backL_get hn.2 h2 j with ⟨a, b⟩ | ⟨k, x2, d2, y2, d3, a, b, c, e2⟩
      · exact .inr ⟨0, x, d, y, d', by simp, h1, by simp, by rw [b, List.getElem?_set_self hlt]⟩
      · exact absurd (mem_slots a) hn.1
    · rcases backL_get hn.2 h2 j with ⟨a, b⟩ | ⟨k, x2, d2, y2, d3, a, b, c, e2⟩
      · exact .inl ⟨by simp [slotsOf, a, e], by rw [b, List.getElem?_set_ne (fun z => e z.symm)]⟩
      · refine .inr ⟨k + 1, x2, d2, y2, d3, by simpa using a, ?_, by simpa using c, e2⟩
        unfold owd at b ⊢
        rw [List.getElem?_set_ne (fun z => e z.symm)] at b
        exact b
  | .slot _ :: _, [], _, _, _, h, _ => by simp [backL] at h
  | .slot _ :: _, .fz _ :: _, _, _, _, h, _ => by simp [backL] at h
  | .val _ :: r, l :: z, ρ, ρ', hn, h, j => by
    simp only [backL] at h
    rcases backL_get (os := r) (by simpa [slotsOf] using hn) h j with ⟨a, b⟩ | ⟨k, w⟩
    · exact .inl ⟨by simpa [slotsOf] using a, b⟩
    · exact .inr ⟨k + 1, by simpa using w⟩
  | .own _ :: r, l :: z, ρ, ρ', hn, h, j => by
    simp only [backL] at h
    rcases backL_get (os := r) (by simpa [slotsOf] using hn) h j with ⟨a, b⟩ | ⟨k, w⟩
    · exact .inl ⟨by simpa [slotsOf] using a, b⟩
    · exact .inr ⟨k + 1, by simpa using w⟩
  | .val _ :: _, [], _, _, _, h, _ => by simp [backL] at h
  | .own _ :: _, [], _, _, _, h, _ => by simp [backL] at h
section
variable {K : Fr} {e : List Addr} {B : Addr → Prop} {ρ ρ' ρ1 ρ2 : Rho} {U U' U1 U2 : Addr → Bool} {σ σ' : L2.St} {H H' H1 H2 H0 : Hp} {v : V}
theorem ROps.len {vs : List V} {os : List Op} (h : ROps K ρ U σ H H0 vs os) : vs.length = os.length := by
  induction h with
  | nil => rfl
  | cons _ _ ih => simp [ih]
theorem ROps.get {vs : List V} {os : List Op} (h : ROps K ρ U σ H H0 vs os) : ∀ {k : Nat} {o : Op}, os[k]? = some o → ∃ v, vs[k]? = some v ∧ ROp K ρ U σ H H0 v o := by
  induction h with
  | nil => intro k o h; simp at h
  | cons r _ ih =>
    intro k o h
    cases k with
    | zero => simp at h; subst h; exact ⟨_, by simp, r⟩
    | succ k => obtain ⟨v, a, b⟩ := ih (by simpa using h); exact ⟨v, by simpa using a, b⟩
/-- the call's arguments are what the promise asks -/
theorem pars_of (I : Iv K e B ρ U σ H) {vs : List V} {os : List Op} {ls : List L} (r : ROps K ρ U σ H H0 vs os) (hl : toLs ρ os = some ls) (hn : (slotsOf os).Nodup) : Pars K U H vs ls := by
  refine ⟨r.len.trans (toLs_len hl).symm, fun k l hk => ?_, fun j k x y d d' v hj hk vj vk => ?_⟩
  · rcases toLs_get hl k l hk with ⟨d, a, rfl⟩ | ⟨i, x, d, a, b, rfl⟩
    · obtain ⟨v, c, r⟩ := r.get a; exact ⟨v, c, r⟩
    · obtain ⟨v, c, r⟩ := r.get a
      obtain ⟨p, h1, h2, h3⟩ := I.ow b
      have r' : σ[i]? = some (some v) := r
      rw [r'] at h1; cases h1
      exact ⟨_, c, p, rfl, h2, h3⟩
  · rcases toLs_get hl j _ hj with ⟨d, a, z⟩ | ⟨i, x, d, a, b, z⟩
    · cases z
    · rcases toLs_get hl k _ hk with ⟨d, a2, z⟩ | ⟨i2, x2, d2, a2, b2, z⟩
      · cases z
      · obtain ⟨w, c, r1⟩ := r.get a
        obtain ⟨w2, c2, r2⟩ := r.get a2
        rw [vj] at c; cases c
        rw [vk] at c2; cases c2
        have r1' : σ[i]? = some (some v) := r1
        have r2' : σ[i2]? = some (some v) := r2
        obtain ⟨p, h1, _⟩ := I.ow b
        rw [r1'] at h1; cases h1
        have := I.apart i i2 _ _ _ _ _ (owd_some b) (owd_some b2) r1' r2'
        subst this
        exact slots_inj hn a a2
/-- behind the call -/
theorem came_post (I : Iv K e B ρ U σ H) {vs : List V} {os : List Op} {ls ls' : List L} (r : ROps K ρ U σ H H0 vs os) (hl : toLs ρ os = some ls) (hn : (slotsOf os).Nodup) (C : Came K U H vs ls ls' U' H') (hb : backL os ls' ρ = some ρ') : EPost K e B ρ U σ H ρ' U' H' := by
  have po : ∀ b, ParOwn vs ls b → ∃ (k i : Nat) (x : Option Nat) (d : D), os[k]? = some (Op.slot i) ∧ owd ρ i = some (x, d) ∧ σ[i]? = some (some (V.ref b)) := fun b ⟨k, x, d, h1, h2⟩ => by
    rcases toLs_get hl k _ h1 with ⟨d, a, z⟩ | ⟨i, x, d, a, c, z⟩
    · cases z
    · obtain ⟨w, h3, r1⟩ := r.get a
      rw [h2] at h3; cases h3
      exact ⟨k, i, x, d, a, c, r1⟩
  have pown : ∀ b, ParOwn vs ls b → Own ρ σ b := fun b h => by
    obtain ⟨k, i, x, d, _, c, s⟩ := po b h
    exact ⟨i, x, d, owd_some c, s⟩
  have S := C.stp.weak fun p _ h => pown p h
  have slot' : ∀ (j : Nat) (l : L), ρ'[j]? = some (some l) → (j ∉ slotsOf os ∧ ρ[j]? = some (some l)) ∨ ∃ (k : Nat) (x : Option Nat) (d : D) (y : Option Nat) (d' : D) (p : Addr), os[k]? = some (Op.slot j) ∧ ρ[j]? = some (some (L.ow x d)) ∧ l = L.ow x d' ∧ ls'[k]? = some (L.ow y d') ∧ σ[j]? = some (some (V.ref p)) ∧ U' p = true ∧ RepO K U' H' p d' := fun j l hj => by
    rcases backL_get hn hb j with ⟨a, b⟩ | ⟨k, x, d, y, d', a, b, c, e2⟩
    · rw [b] at hj; exact .inl ⟨a, hj⟩
    · rw [e2] at hj; cases hj
      obtain ⟨w, h3, r1⟩ := r.get a
      have hlk : ls[k]? = some (.ow none d) := by
        have hkl : k < ls.length := by rw [toLs_len hl]; exact (List.getElem?_eq_some_iff.mp a).1
        rcases toLs_get hl k _ (List.getElem?_eq_getElem hkl) with ⟨d2, a2, z⟩ | ⟨i2, x2, d2, a2, c2, z⟩
        · rw [a] at a2; cases a2
        · rw [a] at a2; cases a2
          rw [b] at c2; cases c2
          rw [List.getElem?_eq_getElem hkl, z]
      obtain ⟨y2, d3, p, h4, h5, h6, h7⟩ := C.par k _ _ hlk
      rw [c] at h4; cases h4
      rw [h3] at h5; cases h5
      exact .inr ⟨k, x, d, y, d', p, a, owd_some b, rfl, c, r1, h6, h7⟩
  have own' : ∀ b, Own ρ' σ b → Own ρ σ b := fun b ⟨j, x, d, h1, h2⟩ => by
    rcases slot' j _ h1 with ⟨_, a⟩ | ⟨k, x2, d2, y, d', p, _, a, _, _, c, _⟩
    · exact ⟨j, x, d, a, h2⟩
    · exact ⟨j, x2, d2, a, h2⟩
  refine ⟨S, ⟨(backL_len hb).trans I.len, fun j l hj => ?_, fun i j x y d d' p hi hj pi pj => ?_, C.dom, fun p h => C.stp.dm p (I.bdom p h)⟩, own'⟩
  · rcases slot' j l hj with ⟨ns, a⟩ | ⟨k, x, d, y, d', p, _, a, rfl, _, c, hu, hr⟩
    · obtain ⟨w, h1, h2⟩ := I.slot j l a
      refine ⟨w, h1, ?_⟩
      cases l with
      | fz d => exact Rep.le C.stp.le h2
      | ow x d =>
        obtain ⟨p, rfl, hu, hr, hx⟩ := h2
        have np : ¬ ParOwn vs ls p := fun z => by
          obtain ⟨k, i, x2, d2, a2, c2, s2⟩ := po p z
          have := I.apart i j _ _ _ _ _ (owd_some c2) a s2 h1
          subst this
          exact ns (mem_slots a2)
        obtain ⟨u2, e2⟩ := C.stp.frm p hu np
        exact ⟨p, rfl, u2, hr.le C.stp.le e2, hx⟩
    · obtain ⟨w, h1, p2, h2, _, _, hx⟩ := I.slot j _ a
      rw [c] at h1; cases h1; cases h2
      exact ⟨_, c, p, rfl, hu, hr, hx⟩
  · have gi : ∃ (x : Option Nat) (d : D), ρ[i]? = some (some (L.ow x d)) := by
      rcases slot' i _ hi with ⟨_, a⟩ | ⟨k, x2, d2, y, d', p, _, a, _⟩
      · exact ⟨_, _, a⟩
      · exact ⟨_, _, a⟩
    have gj : ∃ (x : Option Nat) (d : D), ρ[j]? = some (some (L.ow x d)) := by
      rcases slot' j _ hj with ⟨_, a⟩ | ⟨k, x2, d2, y, d', p, _, a, _⟩
      · exact ⟨_, _, a⟩
      · exact ⟨_, _, a⟩
    obtain ⟨_, _, gi⟩ := gi
    obtain ⟨_, _, gj⟩ := gj
    exact I.apart i j _ _ _ _ _ gi gj pi pj
theorem gives_op {l : L} (I : Iv K e B ρ U σ H) (P : EPost K e B ρ U σ H ρ' U' H') (g : Gives K U' H' H v l) : ROp K ρ' U' σ H' H v (resOp l) := by
  cases l with
  | fz d => exact g
  | ow x d =>
    obtain ⟨p, rfl, hu, hr, h0⟩ := g
    exact ⟨p, rfl, hu, hr, fun z => I.dom p (I.own_u (P.own p z)) h0, h0⟩
end
section
variable {K : Fr}
/-- the heart of every call -/
theorem call_core {fs : FN} {e : List Addr} {B : Addr → Prop} {ρ ρ1 ρ2 : Rho} {U U1 : Addr → Bool} {σ : L2.St} {H H1 : Hp} {vs : List V} {os : List Op} {r : L} {Q : VK} {E : XK} (I : Iv K e B ρ U σ H) (P : EPost K e B ρ U σ H ρ1 U1 H1) (ro : ROps K ρ1 U1 σ H1 H vs os) (hf : callF fs os ρ1 = some (r, ρ2))
    (q : ∀ v U' H', EPost K e B ρ U σ H ρ2 U' H' → ROp K ρ2 U' σ H' H v (resOp r) → Q v H') : spF K fs vs H1 Q E := by
  obtain ⟨ls, h1, hf⟩ := bind_some hf
  split at hf
  · rename_i hn
    obtain ⟨⟨r', ls'⟩, h2, hf⟩ := bind_some hf
    obtain ⟨ρ3, h3, hf⟩ := map_some hf
    cases hf
    refine ⟨U1, ls, r, ls', P.inv.dom, pars_of P.inv ro h1 hn, h2, fun v U' H' C g => ?_⟩
    have P2 := came_post P.inv ro h1 hn C h3
    exact q v U' H' (P.trans I P2) ((gives_op P.inv P2 g).back P.stp.dm)
  · cases hf
theorem ej_call {fs : FN} {E : XK} {ta : TA} {fa : FA} (ha : AJ K ta fa) : EJ K (tCall (spF K fs) [] E ta) (fCallF fs fa) := fun ρ o ρ' hf e B U σ H I Q q => by
  obtain ⟨⟨os, ρ1⟩, h1, hf⟩ := bind_some hf
  obtain ⟨⟨r, ρ2⟩, h2, hf⟩ := map_some hf
  cases hf
  refine ha ρ os ρ1 h1 e B U σ H I _ fun vs U1 H1 P ro => ?_
  rw [List.append_nil]
  exact call_core I P ro h2 q
/-- C(..): a new instance, and __init__ -/
def fMake (c : Str) (fs : FN) (fa : FA) : FE := fun ρ => (fa ρ).bind fun (os, ρ1) => (toLs ρ1 os).bind fun ls => if slotsOf os = [] then (fs (.ow none (.ins c []) :: ls)).bind fun (r, ls') => match r, ls' with
  | .fz .non, .ow _ d :: _ => some (.own d, ρ1)
  | _, _ => none else none
theorem ej_make {fs : FN} {E : XK} {c : Str} {ta : TA} {fa : FA} (ha : AJ K ta fa) : EJ K (tMake (He.ga K c) (spF K fs) [] E ta) (fMake c fs fa) := fun ρ o ρ' hf e B U σ H I Q q => by
  obtain ⟨⟨os, ρ1⟩, h1, hf⟩ := bind_some hf
  obtain ⟨ls, h2, hf⟩ := bind_some hf
  dsimp only at hf
  split at hf
  · rename_i hsl
    obtain ⟨⟨r, ls'⟩, h3, hf⟩ := bind_some hf
    dsimp only at hf
    split at hf
    · rename_i x d z
      cases hf
      refine ha ρ os _ h1 e B U σ H I _ fun vs U1 H1 P ro => ?_
      intro a dx ha0 hdx ne
      rw [List.append_nil]
      have hn : (slotsOf os).Nodup := by rw [hsl]; exact .nil
      have P0 := pars_of P.inv ro h2 hn
      -- the heap with the new instance
      have E1 : Ext U1 H1 U1 (upd H1 dx (.own a)) := .new hdx P.inv.dom
      have ha1 : upd H1 dx (.own a) a = none := by rw [upd_ne (fun z => ne z.symm)]; exact ha0
      have E2 : Ext U1 (upd H1 dx (.own a)) (Uadd U1 a) (upd (upd H1 dx (.own a)) a (.ins (He.ga K c) dx [])) := .newU ha1 E1.dom
      have EE := E1.trans E2
      have noOw : ∀ (k : Nat) (x : Option Nat) (d : D), ls[k]? ≠ some (.ow x d) := fun k x d hk => by
        rcases toLs_get h2 k _ hk with ⟨d, a, z⟩ | ⟨i, x, d, a, b, z⟩
        · cases z
        · have := mem_slots a; rw [hsl] at this; cases this
      refine ⟨Uadd U1 a, .ow none (.ins c []) :: ls, .fz .non, .ow x d :: z, E2.dom, ⟨by simp [P0.len], fun k l hk => ?_, fun j k x y d d' v hj hk vj vk => ?_⟩, h3, fun v U' H' C g => ?_⟩
      · cases k with
        | zero =>
          simp at hk; subst hk
          exact ⟨_, by simp, a, rfl, uadd_same, ⟨dx, [], upd_same, rfl, .nil⟩⟩
        | succ k =>
          obtain ⟨v, h4, h5⟩ := P0.par k l (by simpa using hk)
          refine ⟨v, by simpa using h4, ?_⟩
          cases l with
          | fz d => exact Rep.le EE.le h5
          | ow x d => exact absurd (by simpa using hk) (noOw k x d)
      · cases j with
        | zero =>
          cases k with
          | zero => rfl
          | succ k => exact absurd (by simpa using hk) (noOw k _ _)
        | succ j => exact absurd (by simpa using hj) (noOw j _ _)
      · have g' : Rep K (mask U' H') v .non := g
        cases g'
        refine ⟨rfl, ?_⟩
        obtain ⟨y, d', p, e1, e2, e3, e4⟩ := C.par 0 none (.ins c []) (by simp)
        simp at e1 e2
        obtain ⟨_, rfl⟩ := e1
        subst e2
        have pOwn : ∀ b, ParOwn (V.ref a :: vs) (.ow none (.ins c []) :: ls) b → b = a := fun b ⟨k, x, d, h4, h5⟩ => by
          cases k with
          | zero => simp at h5; exact h5.symm
          | succ k => exact absurd (by simpa using h4) (noOw k _ _)
        have P2 : EPost K e B ρ' U1 σ H1 ρ' U' H' := by
          have up : ∀ b o, H1 b = some o → upd (upd H1 dx (.own a)) a (.ins (He.ga K c) dx []) b = some o ∧ Uadd U1 a b = U1 b := EE.keep
          have S : Stp (Own ρ' σ) U1 H1 U' H' := by
            refine ⟨fun b o h1 h2 => ?_, fun b h1 h2 => ?_, fun b hb => ?_⟩
            · obtain ⟨a1, a2⟩ := up b o h2
              exact C.stp.frz b o (a2.trans h1) a1
            · obtain ⟨o, ho⟩ := some_ne (P.inv.dom b h1)
              obtain ⟨a1, a2⟩ := up b o ho
              have nb : b ≠ a := fun z => P.inv.dom b h1 (by rw [z]; exact ha0)
              obtain ⟨c1, c2⟩ := C.stp.frm b (a2.trans h1) fun z => nb (pOwn b z)
              exact ⟨c1, c2.trans (a1.trans ho.symm)⟩
            · obtain ⟨o, ho⟩ := some_ne hb
              exact C.stp.dm b (by rw [(up b o ho).1]; simp)
          refine ⟨S, P.inv.mono S.le (fun b hb => ?_) C.dom S.dm, fun _ h => h⟩
          obtain ⟨o, ho⟩ := some_ne (P.inv.dom b (P.inv.own_u hb))
          obtain ⟨a1, a2⟩ := up b o ho
          have nb : b ≠ a := fun z => P.inv.dom b (P.inv.own_u hb) (by rw [z]; exact ha0)
          obtain ⟨c1, c2⟩ := C.stp.frm b (a2.trans (P.inv.own_u hb)) fun z => nb (pOwn b z)
          exact ⟨c1, c2.trans (a1.trans ho.symm)⟩
        refine q _ U' H' (P.trans I P2) ⟨a, rfl, e3, e4, fun z => P.inv.dom a (P.inv.own_u z) ha0, ?_⟩
        exact Classical.byContradiction fun z => P.stp.dm a z ha0
    · cases hf
  · cases hf
end
end DV

set_option Elab.async false
set_option linter.all false
set_option maxRecDepth 100000
set_option maxHeartbeats 1000000
namespace DV
open PySem PySem.Spec PyProof.Rows L2
/-! ### operators on ints, lists, tuples, texts -/
def rOr (r s : R2) : R2 := fun x y H Q => r x y H Q ∨ s x y H Q
theorem OpR.either {X : Cx} {f : Value → Value → Sem Value} {r s : R2} (h : OpR X f r) (g : OpR X f s) : OpR X f (rOr r s) := fun pins st σ H x y v u Q I rx ry q =>
  q.elim (fun q => h pins st σ H x y v u Q I rx ry q) fun q => g pins st σ H x y v u Q I rx ry q
theorem OJ2.res {K : Fr} {U : Addr → Bool} {H : Hp} {v : V} {d : D} {Q : VK} (dm : Dm U H) (r : Rep K (mask U H) v d) (q : ∀ v U' H', Ext U H U' H' → RRes K U' H' H v (.val d) → Q v H') : Q v H := q v U H (.refl dm) r
section
variable {X : Cx}
def rAddS : R2 := fun x y H Q => ∃ i j, x = .str i ∧ y = .str j ∧ i.length + j.length ≤ sizeLine ∧ Q (.str (i ++ j)) H
def rAddA (K : Fr) : R2 := rOr (rI0 fun i j => .int (i + j)) (rOr rCat (rOr (rCatA K) rAddS))
theorem op_addA : OpR X (binaryOp .Add) (rAddA X.K) := OpR.either op_add (OpR.either op_cat (OpR.either op_catA op_add_str))
def gAdd : D → D → Option Op
  | .int i, .int j => some (.val (.int (i + j)))
  | .lst a, .lst b => if a.length + b.length ≤ sizeLine then some (.own (.lst (a ++ b))) else none
  | .tup a, .tup b => if a.length + b.length ≤ sizeLine then some (.val (.tup (a ++ b))) else none
  | .str a, .str b => if a.length + b.length ≤ sizeLine then some (.val (.str (a ++ b))) else none
  | _, _ => none
theorem oj_add {K : Fr} : OJ2 K (rAddA K) gAdd := fun dx dy o h U H x y dm rx ry Q q => by
  unfold gAdd at h
  split at h
  · cases h
    exact .inl ⟨_, _, rx.int, ry.int, OJ2.res dm (.int _) q⟩
  · split at h
    · rename_i a b hz
      cases h
      obtain ⟨p, xs, rfl, h1, h2⟩ := rx.lst
      obtain ⟨p2, ys, rfl, h3, h4⟩ := ry.lst
      exact .inr (.inl ⟨p, p2, xs, ys, rfl, rfl, h1, h3, by rw [h2.length, h4.length]; exact hz, fun n hn => q _ _ _ (.newU hn dm) (.lst hn (h2.append h4))⟩)
    · cases h
  · split at h
    · rename_i a b hz
      cases h
      obtain ⟨p, xs, rfl, h1, h2⟩ := rx.tup
      obtain ⟨p2, ys, rfl, h3, h4⟩ := ry.tup
      refine .inr (.inr (.inl ⟨p, p2, xs, ys, rfl, rfl, .of h1, .of h3, by rw [h2.length, h4.length]; exact hz, fun e => ?_, fun _ e => ?_, fun _ _ n hn => q _ _ _ (.new hn dm) (.tup hn dm (h2.append h4))⟩))
      · subst e
        have : a = [] := List.length_eq_zero_iff.mp (by rw [← h2.length]; rfl)
        subst this
        refine q _ U H (.refl dm) ?_
        rcases ry with r | ⟨_, _, r⟩
        · exact r
        · exact r.elim
      · subst e
        have : b = [] := List.length_eq_zero_iff.mp (by rw [← h4.length]; rfl)
        subst this
        refine q _ U H (.refl dm) ?_
        rw [List.append_nil]
        rcases rx with r | ⟨_, _, r⟩
        · exact r
        · exact r.elim
    · cases h
  · split at h
    · rename_i a b hz
      cases h
      exact .inr (.inr (.inr ⟨_, _, rx.str, ry.str, hz, OJ2.res dm (.str _) q⟩))
    · cases h
  · cases h
def gSub : D → D → Option Op
  | .int i, .int j => some (.val (.int (i - j)))
  | _, _ => none
theorem oj_sub {K : Fr} : OJ2 K (rI0 fun i j => .int (i - j)) gSub := fun dx dy o h U H x y dm rx ry Q q => by
  unfold gSub at h
  split at h
  · cases h; exact ⟨_, _, rx.int, ry.int, OJ2.res dm (.int _) q⟩
  · cases h
/-- products: one factor short, or both together below a million bits -/
def MulOk (i j : Int) : Prop := ((-(2 ^ 64) < i ∧ i < 2 ^ 64) ∨ (-(2 ^ 64) < j ∧ j < 2 ^ 64)) ∨ i.natAbs.log2 + j.natAbs.log2 < 1000000
instance {i j : Int} : Decidable (MulOk i j) := by unfold MulOk; infer_instance
def rMulA : R2 := rOr (rI CMul fun i j => .int (i * j)) (rOr (rI CMulW fun i j => .int (i * j)) rRep)
theorem op_mulA : OpR X (binaryOp .Mult) rMulA := OpR.either op_mul (OpR.either op_mulW op_rep)
def gMul : D → D → Option Op
  | .int i, .int j => if MulOk i j then some (.val (.int (i * j))) else none
  | .lst a, .int k => if -(2 ^ 63) ≤ k ∧ k < 2 ^ 63 ∧ a.length * k.toNat ≤ sizeLine then some (.own (.lst (List.replicate k.toNat a).flatten)) else none
  | _, _ => none
theorem Reps.rep {K : Fr} {G : Hp} {xs : List V} {ds : List D} (h : Reps K G xs ds) : ∀ n : Nat, Reps K G (List.replicate n xs).flatten (List.replicate n ds).flatten
  | 0 => .nil
  | n + 1 => by
    rw [List.replicate_succ, List.replicate_succ, List.flatten_cons, List.flatten_cons]
    exact h.append (Reps.rep h n)
theorem oj_mul {K : Fr} : OJ2 K rMulA gMul := fun dx dy o h U H x y dm rx ry Q q => by
  unfold gMul at h
  split at h
  · split at h
    · rename_i i j hz
      cases h
      rcases hz with hz | hz
      · exact .inl ⟨_, _, rx.int, ry.int, hz, OJ2.res dm (.int _) q⟩
      · exact .inr (.inl ⟨_, _, rx.int, ry.int, hz, OJ2.res dm (.int _) q⟩)
    · cases h
  · split at h
    · rename_i a k hz
      cases h
      obtain ⟨p, xs, rfl, h1, h2⟩ := rx.lst
      exact .inr (.inr ⟨p, k, xs, rfl, ry.int, h1, hz.1, hz.2.1, by rw [h2.length]; exact hz.2.2, fun n hn => q _ _ _ (.newU hn dm) (.lst hn (h2.rep _))⟩)
    · cases h
  · cases h
def CDivG (_ j : Int) : Prop := j ≠ 0 ∧ j.natAbs.log2 < 9000
theorem op_fdivG : OpR X (binaryOp .FloorDiv) (rI CDivG fun i j => .int (i.fdiv j)) := opI fun i j _ _ _ _ _ hc q => floordiv_int hc.1 q (.inl (PyProof.noPylong_of_log2 hc.2))
def gFdiv : D → D → Option Op
  | .int i, .int j => if j ≠ 0 ∧ j.natAbs.log2 < 9000 then some (.val (.int (i.fdiv j))) else none
  | _, _ => none
theorem oj_fdiv {K : Fr} : OJ2 K (rI CDivG fun i j => .int (i.fdiv j)) gFdiv := fun dx dy o h U H x y dm rx ry Q q => by
  unfold gFdiv at h
  split at h
  · split at h
    · rename_i hz
      cases h; exact ⟨_, _, rx.int, ry.int, hz, OJ2.res dm (.int _) q⟩
    · cases h
  · cases h
def gMod : D → D → Option Op
  | .int i, .int j => if j ≠ 0 then some (.val (.int (i.fmod j))) else none
  | _, _ => none
theorem oj_mod {K : Fr} : OJ2 K (rI (fun _ j => j ≠ 0) fun i j => .int (i.fmod j)) gMod := fun dx dy o h U H x y dm rx ry Q q => by
  unfold gMod at h
  split at h
  · split at h
    · rename_i hz
      cases h; exact ⟨_, _, rx.int, ry.int, hz, OJ2.res dm (.int _) q⟩
    · cases h
  · cases h
def PowOk (i j : Int) : Prop := 0 ≤ j ∧ (Builtin.Int.intBits i : Int) * j ≤ 2 ^ 27
instance {i j : Int} : Decidable (PowOk i j) := by unfold PowOk; infer_instance
theorem op_powG : OpR X (binaryOp .Pow) (rI PowOk fun i j => .int (i ^ j.toNat)) := opI fun _ _ _ _ _ _ _ hc q => pow_int hc.1 hc.2 q
def gPow : D → D → Option Op
  | .int i, .int j => if PowOk i j then some (.val (.int (i ^ j.toNat))) else none
  | _, _ => none
theorem oj_pow {K : Fr} : OJ2 K (rI PowOk fun i j => .int (i ^ j.toNat)) gPow := fun dx dy o h U H x y dm rx ry Q q => by
  unfold gPow at h
  split at h
  · split at h
    · rename_i hz
      cases h; exact ⟨_, _, rx.int, ry.int, hz, OJ2.res dm (.int _) q⟩
    · cases h
  · cases h
def gNeg : D → Option Op
  | .int i => some (.val (.int (-i)))
  | _ => none
theorem oj_neg {K : Fr} : OJ1 K (rU fun i => .int (-i)) gNeg := fun dx o h U H x dm rx Q q => by
  unfold gNeg at h
  split at h
  · cases h; exact ⟨_, rx.int, OJ2.res dm (.int _) q⟩
  · cases h
/-- comparisons of ints -/
def gCmp (p : Int → Int → Bool) : D → D → Option Op
  | .int i, .int j => some (.val (.bl (p i j)))
  | _, _ => none
theorem oj_cmp {K : Fr} {p : Int → Int → Bool} : OJ2 K (rI0 fun i j => .bl (p i j)) (gCmp p) := fun dx dy o h U H x y dm rx ry Q q => by
  unfold gCmp at h
  split at h
  · cases h; exact ⟨_, _, rx.int, ry.int, OJ2.res dm (.bl _) q⟩
  · cases h
/-! ### data as plain data -/
mutual
def toPy : D → Option PyData
  | .non => some .none
  | .bl b => some (.bool b)
  | .int i => some (.int i)
  | .str x => some (.str x)
  | .lst l => (toPys l).map .list
  | .tup l => (toPys l).map .tuple
  | .dK _ => none
  | .dT _ => none
  | .ins _ _ => none
  | .scr _ => none
def toPys : List D → Option (List PyData)
  | [] => some []
  | d :: l => (toPy d).bind fun p => (toPys l).map fun ps => p :: ps
end
mutual
theorem rep_dp {K : Fr} {U : Addr → Bool} {H : Hp} : ∀ {v : V} {d : D} {p : PyData}, Rep K (mask U H) v d → toPy d = some p → Dp K H v p
  | _, _, _, .non, h => by cases h; exact .non
  | _, _, _, .bl b, h => by cases h; exact .bl b
  | _, _, _, .int i, h => by cases h; exact .int i
  | _, _, _, .str x, h => by cases h; exact .str x
  | _, _, _, .lst hm r, h => by
    obtain ⟨ps, h1, h2⟩ := map_some h
    subst h2
    exact .lst (SqL.of (mask_some hm).2) (reps_dp r h1)
  | _, _, _, .tup hm r, h => by
    obtain ⟨ps, h1, h2⟩ := map_some h
    subst h2
    exact .tup (SqT.of (mask_some hm).2) (reps_dp r h1)
  | _, _, _, .dK _ _ _, h => by cases h
  | _, _, _, .dT _ _ _, h => by cases h
  | _, _, _, .ins _ _ _ _, h => by cases h
  | _, _, _, .scr _, h => by cases h
theorem reps_dp {K : Fr} {U : Addr → Bool} {H : Hp} : ∀ {vs : List V} {ds : List D} {ps : List PyData}, Reps K (mask U H) vs ds → toPys ds = some ps → DpAll K H vs ps
  | _, _, _, .nil, h => by cases h; exact .nil
  | _, _, _, .cons r t, h => by
    obtain ⟨p, h1, h⟩ := bind_some h
    obtain ⟨ps, h2, h3⟩ := map_some h
    subst h3
    exact .cons (rep_dp r h1) (reps_dp t h2)
end
theorem repB_dp {K : Fr} {U : Addr → Bool} {H : Hp} {v : V} {d : D} {p : PyData} (r : RepB K U H v d) (h : toPy d = some p) : Dp K H v p := by
  rcases r with r | ⟨a, rfl, r⟩
  · exact rep_dp r h
  · cases d with
    | lst l =>
      obtain ⟨xs, h1, h2⟩ := r
      obtain ⟨ps, h3, h4⟩ := map_some h
      subst h4
      exact .lst (SqL.of h1) (reps_dp h2 h3)
    | tup l => exact r.elim
    | non => exact r.elim
    | bl b => exact r.elim
    | int i => exact r.elim
    | str x => exact r.elim
    | dK l => cases h
    | dT l => cases h
    | ins c l => cases h
    | scr l => cases h
/-- ==, != of plain data -/
def eqPy (x y : D) : Option Bool := (toPy x).bind fun p => (toPy y).bind fun q => if SeqAt.shaped p = true ∧ SeqAt.shaped q = true then some (PyData.eqv p q) else none
def gEq (x y : D) : Option Op := (eqPy x y).map fun b => .val (.bl b)
def gNe (x y : D) : Option Op := (eqPy x y).map fun b => .val (.bl (!b))
theorem oj_eq {K : Fr} : OJ2 K (rEqD K) gEq := fun dx dy o h U H x y dm rx ry Q q => by
  obtain ⟨b, hb, rfl⟩ := map_some h
  obtain ⟨p, h1, hb⟩ := bind_some hb
  obtain ⟨p2, h2, hb⟩ := bind_some hb
  split at hb
  · rename_i hs
    cases hb
    exact ⟨p, p2, repB_dp rx h1, repB_dp ry h2, hs.1, hs.2, OJ2.res dm (.bl _) q⟩
  · cases hb
theorem oj_ne {K : Fr} : OJ2 K (rNeD K) gNe := fun dx dy o h U H x y dm rx ry Q q => by
  obtain ⟨b, hb, rfl⟩ := map_some h
  obtain ⟨p, h1, hb⟩ := bind_some hb
  obtain ⟨p2, h2, hb⟩ := bind_some hb
  split at hb
  · rename_i hs
    cases hb
    exact ⟨p, p2, repB_dp rx h1, repB_dp ry h2, hs.1, hs.2, OJ2.res dm (.bl _) q⟩
  · cases hb
/-- x is None -/
def isNon : D → Bool
  | .non => true
  | _ => false
theorem isNon_rep {K : Fr} {U : Addr → Bool} {H : Hp} {v : V} {d : D} (r : RepB K U H v d) : decide (v = V.non) = isNon d := by
  cases d with
  | non => rw [r.non]; rfl
  | bl b => rw [r.bl]; rfl
  | int i => rw [r.int]; rfl
  | str s => rw [r.str]; rfl
  | lst l => obtain ⟨a, xs, rfl, _⟩ := r.lst; rfl
  | tup l => obtain ⟨a, xs, rfl, _⟩ := r.tup; rfl
  | dK l => obtain ⟨a, xs, rfl, _⟩ := r.dK; rfl
  | dT l => obtain ⟨a, xs, rfl, _⟩ := r.dT; rfl
  | ins c l => obtain ⟨a, dx, fs, rfl, _⟩ := r.ins; rfl
  | scr l => obtain ⟨a, rfl, _⟩ := r.scr; rfl
def gIsN : D → D → Option Op
  | x, .non => some (.val (.bl (isNon x)))
  | _, _ => none
def gNotN : D → D → Option Op
  | x, .non => some (.val (.bl (!isNon x)))
  | _, _ => none
theorem oj_isN {K : Fr} : OJ2 K (fun x y H Q => y = .non ∧ Q (.bl (decide (x = .non))) H) gIsN := fun dx dy o h U H x y dm rx ry Q q => by
  unfold gIsN at h
  split at h
  · cases h; exact ⟨ry.non, by rw [isNon_rep rx]; exact OJ2.res dm (.bl _) q⟩
  · cases h
theorem oj_notN {K : Fr} : OJ2 K (fun x y H Q => y = .non ∧ Q (.bl (!decide (x = .non))) H) gNotN := fun dx dy o h U H x y dm rx ry Q q => by
  unfold gNotN at h
  split at h
  · cases h; exact ⟨ry.non, by rw [isNon_rep rx]; exact OJ2.res dm (.bl _) q⟩
  · cases h
/-! ### subscripts -/
def rIxDt : R2 := fun x y H Q => ∃ a v, x = .ref a ∧ DGet H a y (some v) ∧ Q v H
theorem ix_dict (hu : X.A.units + 1 < cLine) : IxR X rIxDt := by
  intro value slice pins s σ H x y v u Q I rx ry h hs
  obtain ⟨a, w, rfl, g, q⟩ := h
  cases rx
  exact tail_any (dict_typeIs I g) PySem.F.slot_dict_getitem.lookup (d_getItem hu I g ry fun w' s3 I3 rw' => ⟨w, H, I3, rw', q⟩) hs
def rIxA (K : Fr) : R2 := fun x y H Q => rIx K x y H Q ∨ rIxDt x y H Q
theorem ix_any (hu : X.A.units + 1 < cLine) : IxR X (rIxA X.K) := ix_seq.or (ix_dict hu)
def gIx : D → D → Option Op
  | .lst l, .int i => (atI l i).map .val
  | .tup l, .int i => (atI l i).map .val
  | .scr l, .int i => (atI l i).map fun j => .val (.int j)
  | .str z, .int i => if z.length ≤ sizeLine then (atI z.cps.toList i).map fun c => .val (.str ⟨#[c]⟩) else none
  | .dT l, k => (getD (.dT l) k).bind fun o => o.map .val
  | .dK l, k => (getD (.dK l) k).bind fun o => o.map .val
  | _, _ => none
theorem Reps.atI {K : Fr} {G : Hp} {xs : List V} {ds : List D} {i : Int} {d : D} (r : Reps K G xs ds) (h : L2.atI ds i = some d) : ∃ v, L2.atI xs i = some v ∧ Rep K G v d := by
  obtain ⟨j, h1, h2⟩ := bind_some h
  obtain ⟨v, h3, h4⟩ := r.get h2
  exact ⟨v, by unfold L2.atI; rw [r.length, h1]; exact h3, h4⟩
theorem atI_map {α β : Type} (f : α → β) {l : List α} {i : Int} {x : α} (h : L2.atI l i = some x) : L2.atI (l.map f) i = some (f x) := by
  obtain ⟨j, h1, h2⟩ := bind_some h
  unfold L2.atI
  rw [List.length_map, h1]
  show (l.map f)[j]? = _
  rw [List.getElem?_map, h2]; rfl
theorem oj_ix {K : Fr} : OJ2 K (rIxA K) gIx := fun dx dy o h U H x y dm rx ry Q q => by
  unfold gIx at h
  split at h
  · obtain ⟨d, h1, rfl⟩ := map_some h
    obtain ⟨p, xs, rfl, h2, h3⟩ := rx.lst
    obtain ⟨v, h4, h5⟩ := h3.atI h1
    exact .inl (.inl ⟨p, xs, _, v, rfl, ry.int, .of h2, h4, OJ2.res dm h5 q⟩)
  · obtain ⟨d, h1, rfl⟩ := map_some h
    obtain ⟨p, xs, rfl, h2, h3⟩ := rx.tup
    obtain ⟨v, h4, h5⟩ := h3.atI h1
    exact .inl (.inr (.inl ⟨p, xs, _, v, rfl, ry.int, .of h2, h4, OJ2.res dm h5 q⟩))
  · obtain ⟨j, h1, rfl⟩ := map_some h
    obtain ⟨p, rfl, h2⟩ := rx.scr
    have h4 := atI_map V.int h1
    exact .inl (.inl ⟨p, _, _, _, rfl, ry.int, h2, h4, OJ2.res dm (.int _) q⟩)
  · split at h
    · rename_i hz
      obtain ⟨c, h1, rfl⟩ := map_some h
      exact .inl (.inr (.inr ⟨_, _, c, rx.str, ry.int, hz, h1, OJ2.res dm (.str _) q⟩))
    · cases h
  · obtain ⟨oo, h1, h2⟩ := bind_some h
    obtain ⟨d, h3, rfl⟩ := map_some h2
    subst h3
    obtain ⟨a, r, rfl, _, g, w, rfl, hw⟩ := getD_ok h1 rx ry
    exact .inr ⟨a, w, rfl, g, OJ2.res dm hw q⟩
  · obtain ⟨oo, h1, h2⟩ := bind_some h
    obtain ⟨d, h3, rfl⟩ := map_some h2
    subst h3
    obtain ⟨a, r, rfl, _, g, w, rfl, hw⟩ := getD_ok h1 rx ry
    exact .inr ⟨a, w, rfl, g, OJ2.res dm hw q⟩
  · cases h
/-! ### slices -/
def rSlAll (K : Fr) : V → Option Int → Option Int → Hp → VK → Prop := fun x lo hi H Q => rSlL K x lo hi H Q ∨ rSlA K x lo hi H Q
theorem sl_any : SlR X (rSlAll X.K) := sl_list.or sl_tupA
def cutD (xs : List D) (lo hi : Option Int) : List D := (xs.drop (HT.sIx xs.length 0 lo)).take (HT.sIx xs.length xs.length hi - HT.sIx xs.length 0 lo)
def slD (d : D) (lo hi : Option Int) : Option Op := match d with
  | .lst l => some (.own (.lst (cutD l lo hi)))
  | .tup l => some (.val (.tup (cutD l lo hi)))
  | _ => none
/-- a part of a slice -/
abbrev FO := Rho → Option (Option Int × Rho)
def PJ (K : Fr) (t : TO) (f : FO) : Prop := ∀ ρ o ρ', f ρ = some (o, ρ') → ∀ e B U σ H, Iv K e B ρ U σ H → ∀ Q : Option Int → Hp → Prop, (∀ U' H', EPost K e B ρ U σ H ρ' U' H' → Q o H') → t σ H Q
def fNoP : FO := fun ρ => some (none, ρ)
def fP (f : FE) : FO := fun ρ => (f ρ).bind fun (o, ρ1) => match o with
  | .val (.int i) => some (some i, ρ1)
  | _ => none
theorem pj_none {K : Fr} : PJ K tNoPart fNoP := fun ρ o ρ' h e B U σ H I Q q => by
  cases h; exact q U H (.refl I)
theorem pj_some {K : Fr} {te : TE} {f : FE} (h : EJ K te f) : PJ K (tPart te) (fP f) := fun ρ o ρ' hf e B U σ H I Q q => by
  obtain ⟨⟨x, ρ1⟩, h1, h2⟩ := bind_some hf
  dsimp only at h2
  split at h2
  · have e1 := Option.some.inj h2
    cases e1
    exact h ρ _ _ h1 e B U σ H I _ fun v U1 H1 P r => ⟨_, rop_int r, q U1 H1 P⟩
  · cases h2
def fSl (f : FE) (lo hi : FO) : FE := fun ρ => (f ρ).bind fun (o, ρ1) => (lo ρ1).bind fun (l, ρ2) => (hi ρ2).bind fun (h, ρ3) => (o.get ρ3).bind fun d => (slD d l h).map fun r => (r, ρ3)
theorem cut_rep {K : Fr} {G : Hp} {xs : List V} {ds : List D} (r : Reps K G xs ds) (lo hi : Option Int) : Reps K G (cutV xs lo hi) (cutD ds lo hi) := by
  unfold cutV cutD
  rw [r.length]
  exact (r.drop _).take _
theorem ej_sl {K : Fr} {te : TE} {f : FE} {tl th : TO} {fl fh : FO} (h : EJ K te f) (hl : PJ K tl fl) (hh : PJ K th fh) : EJ K (tSl (rSlAll K) te tl th) (fSl f fl fh) := fun ρ o ρ' hf e B U σ H I Q q => by
  obtain ⟨⟨x, ρ1⟩, h1, hf⟩ := bind_some hf
  obtain ⟨⟨lo, ρ2⟩, h2, hf⟩ := bind_some hf
  obtain ⟨⟨hi, ρ3⟩, h3, hf⟩ := bind_some hf
  obtain ⟨d, h4, hf⟩ := bind_some hf
  obtain ⟨r, h5, hf⟩ := map_some hf
  cases hf
  refine h ρ x ρ1 h1 e B U σ H I _ fun v U1 H1 P1 r1 => hl ρ1 lo ρ2 h2 e B U1 σ H1 P1.inv _ fun U2 H2 P2 => hh ρ2 hi _ h3 e B U2 σ H2 P2.inv _ fun U3 H3 P3 => ?_
  have P23 := P2.trans P1.inv P3
  have P := P1.trans I P23
  have rb := (r1.step P23).b P3.inv h4
  unfold slD at h5
  split at h5
  · cases h5
    obtain ⟨a, xs, rfl, a1, a2⟩ := rb.lst
    exact .inl ⟨a, xs, rfl, .of a1, fun n hn => q _ _ _ (P.trans I ((Ext.newU hn P3.inv.dom).post P3.inv)) (((RRes.lst hn (cut_rep a2 lo hi)).op P3.inv).back P.stp.dm)⟩
  · rename_i l
    cases h5
    obtain ⟨a, xs, rfl, a1, a2⟩ := rb.tup
    refine .inr ⟨a, xs, rfl, .of a1, fun hw => ?_, fun _ n hn => q _ _ _ (P.trans I ((Ext.new hn P3.inv.dom).post P3.inv)) (((RRes.tup hn P3.inv.dom (cut_rep a2 lo hi)).op P3.inv).back P.stp.dm)⟩
    refine q _ _ _ P ?_
    have e1 : cutD l lo hi = l := by
      unfold cutD
      rw [← a2.length, hw.1, hw.2, List.drop_zero, Nat.sub_zero, a2.length, List.take_length]
    rw [e1]
    rcases rb with r | ⟨_, _, r⟩
    · exact r
    · exact r.elim
  · cases h5
/-! ### built-in calls -/
theorem RepBs.one {K : Fr} {U : Addr → Bool} {H : Hp} {vs : List V} {d : D} (h : RepBs K U H vs [d]) : ∃ v, vs = [v] ∧ RepB K U H v d := by
  cases h with | cons r t => cases t; exact ⟨_, rfl, r⟩
theorem RepBs.two {K : Fr} {U : Addr → Bool} {H : Hp} {vs : List V} {d e : D} (h : RepBs K U H vs [d, e]) : ∃ v w, vs = [v, w] ∧ RepB K U H v d ∧ RepB K U H w e := by
  cases h with | cons r t => obtain ⟨w, rfl, r2⟩ := t.one; exact ⟨_, w, rfl, r, r2⟩
def rLenA (K : Fr) : List V → Hp → VK → Prop := fun xs H Q => ∃ x n, xs = [x] ∧ LenV K x H n ∧ Q (.int n) H
def gLen : List D → Option Op
  | [.lst l] => some (.val (.int l.length))
  | [.tup l] => some (.val (.int l.length))
  | [.scr l] => some (.val (.int l.length))
  | [.str z] => if z.length ≤ sizeLine then some (.val (.int z.length)) else none
  | _ => none
theorem cj_len {K : Fr} : CJ K (rLenA K) gLen := fun ds o h U H vs dm rs Q q => by
  unfold gLen at h
  split at h
  · cases h
    obtain ⟨v, rfl, r⟩ := rs.one
    obtain ⟨a, xs, rfl, h1, h2⟩ := r.lst
    refine ⟨_, _, rfl, .inl ⟨xs, .of h1, rfl⟩, ?_⟩
    rw [h2.length]; exact OJ2.res dm (.int _) q
  · cases h
    obtain ⟨v, rfl, r⟩ := rs.one
    obtain ⟨a, xs, rfl, h1, h2⟩ := r.tup
    refine ⟨_, _, rfl, .inr ⟨xs, .of h1, rfl⟩, ?_⟩
    rw [h2.length]; exact OJ2.res dm (.int _) q
  · cases h
    obtain ⟨v, rfl, r⟩ := rs.one
    obtain ⟨a, rfl, h1⟩ := r.scr
    refine ⟨_, _, rfl, .inl ⟨_, h1, rfl⟩, ?_⟩
    rw [List.length_map]; exact OJ2.res dm (.int _) q
  · split at h
    · rename_i hz
      cases h
      obtain ⟨v, rfl, r⟩ := rs.one
      rw [r.str]
      exact ⟨_, _, rfl, ⟨hz, rfl⟩, OJ2.res dm (.int _) q⟩
    · cases h
  · cases h
def rAbs : List V → Hp → VK → Prop := fun xs H Q => ∃ i, xs = [.int i] ∧ Q (.int (if i < 0 then -i else i)) H
def gAbs : List D → Option Op
  | [.int i] => some (.val (.int (if i < 0 then -i else i)))
  | _ => none
theorem cj_abs {K : Fr} : CJ K rAbs gAbs := fun ds o h U H vs dm rs Q q => by
  unfold gAbs at h
  split at h
  · cases h
    obtain ⟨v, rfl, r⟩ := rs.one
    rw [r.int]
    exact ⟨_, rfl, OJ2.res dm (.int _) q⟩
  · cases h
def rMax2 : List V → Hp → VK → Prop := fun xs H Q => ∃ i j, xs = [.int i, .int j] ∧ Q (.int (if j > i then j else i)) H
def gMax2 : List D → Option Op
  | [.int i, .int j] => some (.val (.int (if j > i then j else i)))
  | _ => none
theorem cj_max2 {K : Fr} : CJ K rMax2 gMax2 := fun ds o h U H vs dm rs Q q => by
  unfold gMax2 at h
  split at h
  · cases h
    obtain ⟨v, w, rfl, r, r2⟩ := rs.two
    rw [r.int, r2.int]
    exact ⟨_, _, rfl, OJ2.res dm (.int _) q⟩
  · cases h
def rMin2 : List V → Hp → VK → Prop := fun xs H Q => ∃ i j, xs = [.int i, .int j] ∧ Q (.int (if j < i then j else i)) H
def gMin2 : List D → Option Op
  | [.int i, .int j] => some (.val (.int (if j < i then j else i)))
  | _ => none
theorem cj_min2 {K : Fr} : CJ K rMin2 gMin2 := fun ds o h U H vs dm rs Q q => by
  unfold gMin2 at h
  split at h
  · cases h
    obtain ⟨v, w, rfl, r, r2⟩ := rs.two
    rw [r.int, r2.int]
    exact ⟨_, _, rfl, OJ2.res dm (.int _) q⟩
  · cases h
def rInt1 : List V → Hp → VK → Prop := fun xs H Q => (∃ i, xs = [.int i] ∧ Q (.int i) H) ∨ ∃ k, xs = [.bl k] ∧ Q (.int (if k then 1 else 0)) H
def gInt1 : List D → Option Op
  | [.int i] => some (.val (.int i))
  | [.bl b] => some (.val (.int (if b then 1 else 0)))
  | _ => none
theorem cj_int1 {K : Fr} : CJ K rInt1 gInt1 := fun ds o h U H vs dm rs Q q => by
  unfold gInt1 at h
  split at h
  · cases h
    obtain ⟨v, rfl, r⟩ := rs.one
    rw [r.int]
    exact .inl ⟨_, rfl, OJ2.res dm (.int _) q⟩
  · cases h
    obtain ⟨v, rfl, r⟩ := rs.one
    rw [r.bl]
    exact .inr ⟨_, rfl, OJ2.res dm (.int _) q⟩
  · cases h
/-- list(x), tuple(x) of a list or a tuple -/
def rListOf (K : Fr) : List V → Hp → VK → Prop := fun xs H Q => ∃ p ys, xs = [.ref p] ∧ (SqL K H p ys ∨ SqT K H p ys) ∧ ∀ l, H l = none → Q (.ref l) (upd H l (.lst ys))
def gList : List D → Option Op
  | [.lst l] => some (.own (.lst l))
  | [.tup l] => some (.own (.lst l))
  | _ => none
theorem cj_list {K : Fr} : CJ K (rListOf K) gList := fun ds o h U H vs dm rs Q q => by
  unfold gList at h
  split at h
  · cases h
    obtain ⟨v, rfl, r⟩ := rs.one
    obtain ⟨a, xs, rfl, h1, h2⟩ := r.lst
    exact ⟨a, xs, rfl, .inl (.of h1), fun n hn => q _ _ _ (.newU hn dm) (.lst hn h2)⟩
  · cases h
    obtain ⟨v, rfl, r⟩ := rs.one
    obtain ⟨a, xs, rfl, h1, h2⟩ := r.tup
    exact ⟨a, xs, rfl, .inr (.of h1), fun n hn => q _ _ _ (.newU hn dm) (.lst hn h2)⟩
  · cases h
def rTupleOf (K : Fr) : List V → Hp → VK → Prop := fun xs H Q => ∃ p ys, xs = [.ref p] ∧ ((SqL K H p ys ∧ ∀ l, H l = none → Q (.ref l) (upd H l (.tup ys))) ∨ (SqT K H p ys ∧ Q (.ref p) H))
def gTuple : List D → Option Op
  | [.lst l] => some (.val (.tup l))
  | [.tup l] => some (.val (.tup l))
  | _ => none
theorem cj_tuple {K : Fr} : CJ K (rTupleOf K) gTuple := fun ds o h U H vs dm rs Q q => by
  unfold gTuple at h
  split at h
  · cases h
    obtain ⟨v, rfl, r⟩ := rs.one
    obtain ⟨a, xs, rfl, h1, h2⟩ := r.lst
    exact ⟨a, xs, rfl, .inl ⟨.of h1, fun n hn => q _ _ _ (.new hn dm) (.tup hn dm h2)⟩⟩
  · cases h
    obtain ⟨v, rfl, r⟩ := rs.one
    have r0 := r
    obtain ⟨a, xs, rfl, h1, h2⟩ := r.tup
    refine ⟨a, xs, rfl, .inr ⟨.of h1, q _ _ _ (.refl dm) ?_⟩⟩
    rcases r0 with r | ⟨_, _, r⟩
    · exact r
    · exact r.elim
  · cases h
/-- ints of a list -/
def intsD : List D → Option (List Int)
  | [] => some []
  | .int i :: r => (intsD r).map fun z => i :: z
  | _ :: _ => none
def blsD : List D → Option (List Bool)
  | [] => some []
  | .bl i :: r => (blsD r).map fun z => i :: z
  | _ :: _ => none
theorem ints_rep {K : Fr} {G : Hp} : ∀ {ds : List D} {xs : List V} {ns : List Int}, intsD ds = some ns → Reps K G xs ds → xs = ns.map V.int
  | [], xs, ns, h, r => by cases h; cases r; rfl
  | .int i :: ds, xs, ns, h, r => by
    obtain ⟨z, h1, h2⟩ := map_some h
    subst h2
    cases r with
    | cons r t => cases r; rw [ints_rep h1 t]; rfl
  | .non :: _, _, _, h, _ => by cases h
  | .bl _ :: _, _, _, h, _ => by cases h
  | .str _ :: _, _, _, h, _ => by cases h
  | .lst _ :: _, _, _, h, _ => by cases h
  | .tup _ :: _, _, _, h, _ => by cases h
  | .dK _ :: _, _, _, h, _ => by cases h
  | .dT _ :: _, _, _, h, _ => by cases h
  | .ins _ _ :: _, _, _, h, _ => by cases h
theorem bls_rep {K : Fr} {G : Hp} : ∀ {ds : List D} {xs : List V} {ns : List Bool}, blsD ds = some ns → Reps K G xs ds → xs = ns.map V.bl
  | [], xs, ns, h, r => by cases h; cases r; rfl
  | .bl i :: ds, xs, ns, h, r => by
    obtain ⟨z, h1, h2⟩ := map_some h
    subst h2
    cases r with
    | cons r t => cases r; rw [bls_rep h1 t]; rfl
  | .non :: _, _, _, h, _ => by cases h
  | .int _ :: _, _, _, h, _ => by cases h
  | .str _ :: _, _, _, h, _ => by cases h
  | .lst _ :: _, _, _, h, _ => by cases h
  | .tup _ :: _, _, _, h, _ => by cases h
  | .dK _ :: _, _, _, h, _ => by cases h
  | .dT _ :: _, _, _, h, _ => by cases h
  | .ins _ _ :: _, _, _, h, _ => by cases h
def gSum : List D → Option Op
  | [.lst l] => (intsD l).map fun ns => .val (.int ns.sum)
  | _ => none
theorem cj_sum {K : Fr} : CJ K (rSum K) gSum := fun ds o h U H vs dm rs Q q => by
  unfold gSum at h
  split at h
  · obtain ⟨ns, h1, rfl⟩ := map_some h
    obtain ⟨v, rfl, r⟩ := rs.one
    obtain ⟨a, xs, rfl, h2, h3⟩ := r.lst
    rw [ints_rep h1 h3] at h2
    exact ⟨a, ns, rfl, .of h2, OJ2.res dm (.int _) q⟩
  · cases h
def gAll : List D → Option Op
  | [.lst l] => (blsD l).map fun ns => .val (.bl (ns.all id))
  | _ => none
theorem cj_all {K : Fr} : CJ K (rAll K) gAll := fun ds o h U H vs dm rs Q q => by
  unfold gAll at h
  split at h
  · obtain ⟨ns, h1, rfl⟩ := map_some h
    obtain ⟨v, rfl, r⟩ := rs.one
    obtain ⟨a, xs, rfl, h2, h3⟩ := r.lst
    rw [bls_rep h1 h3] at h2
    exact ⟨a, ns, rfl, .of h2, OJ2.res dm (.bl _) q⟩
  · cases h
def gAny : List D → Option Op
  | [.lst l] => (blsD l).map fun ns => .val (.bl (ns.any id))
  | _ => none
theorem cj_any {K : Fr} : CJ K (rAny K) gAny := fun ds o h U H vs dm rs Q q => by
  unfold gAny at h
  split at h
  · obtain ⟨ns, h1, rfl⟩ := map_some h
    obtain ⟨v, rfl, r⟩ := rs.one
    obtain ⟨a, xs, rfl, h2, h3⟩ := r.lst
    rw [bls_rep h1 h3] at h2
    exact ⟨a, ns, rfl, .of h2, OJ2.res dm (.bl _) q⟩
  · cases h
end
end DV

set_option Elab.async false
set_option linter.all false
set_option maxRecDepth 100000
set_option maxHeartbeats 1000000
namespace DV
open PySem PySem.Spec PyProof.Rows L2
/-! ### defs called where no text of an object is being made (repr wants to know it) -/
structure FnG (P : Program) (w : World) (K : Fr) (mg : Str → Option Value) (base : Heap) (k : Nat) (f : Addr) (fd : FuncData) (ps : List Str) (sp : Sp) : Prop where
  len : ∀ vs H Q E, sp vs H Q E → vs.length = ps.length
  run : ∀ (A : Around) (o : List PySem.Env) (s : Shared) (H : Hp) (ar : Args) (us : List Value) (vs : List V) (Q : VK) (E : XK), A.guards = some [] → Room k A → Env0 P w K mg base A o s H → BindsTo s fd ar (ps.zip us) → Vals vs us → sp vs H Q E →
    codeAny (model P w) A (.call (.ref f) ar) (CR CX0 o P w H s Q E) s
theorem FnG.of {P : Program} {w : World} {K : Fr} {mg : Str → Option Value} {base : Heap} {k : Nat} {f : Addr} {fd : FuncData} {ps : List Str} {sp : Sp} (F : FnOk P w K mg base CX0 k f fd ps sp) : FnG P w K mg base k f fd ps sp :=
  ⟨F.len, fun A o s H ar us vs Q E _ => F.run A o s H ar us vs Q E⟩
section
variable {P : Program} {w : World} {K : Fr} {mg : Str → Option Value} {base : Heap} {k : Nat} {f : Addr} {fd : FuncData} {ps : List Str} {sp : Sp}
/-- the rule for such a def, by its body -/
theorem FnG.mk' {name qual : Str} {pa : Arguments} {body : List Stmt} {sc : Scope} {kV doc pm cdv ct oc : Value} {an od : Option Addr} {osl : Array (Option Value)} {N : List Str}
    (lk : K.lookup f = some ⟨oc, od, .func (PySem.W.fnOf name qual pa body sc .none kV doc pm an cdv ct), osl⟩) (hcd : PySem.W.codeIn K cdv qual = true) (S : FnScope N ps sc) (len : ∀ vs H Q E, sp vs H Q E → vs.length = ps.length)
    (hb : ∀ (A : Around) (o : List PySem.Env) (s : Shared) (H : Hp) (vs : List V) (Q : VK) (E : XK), A.guards = some [] → Room k (A.deeper (envOfC qual sc s.heap.objs.size f cdv)) → sp vs H Q E →
      ∃ t, PSs (cxOf CX0 P w K mg base N qual sc f cdv A o s H E).nox body t ∧ t { nx := fun _ H' => Q .non H', rt := Q } (L2.start N vs) H) :
    FnG P w K mg base (k + 1) f (PySem.W.fnOf name qual pa body sc .none kV doc pm an cdv ct) ps sp where
  len := len
  run := fun A o s H ar us vs Q E gd hr e0 hbd r hsp => by
    have keepB : ∀ b x, base.get? b = some x → s.heap.get? b = some x := fun b x z => (e0.bs b x z).1
    have kin : K.In s.heap := e0.mod.kin.keeps keepB
    refine codeAny_call_function hr.depth (kin _ _ lk) rfl S.co S.gen rfl (PySem.W.codeRec_of kin hcd) (hbd _ _ _ _ (wpAny_newFunctionEnv_cells S.kind (fun ⟨n, v⟩ hy => ?_) fun env he s1 x => ?_))
    · rcases S.par n (List.of_mem_zip hy).1 with q | q
      · exact .inl q
      · exact .inr ⟨q, PySem.W.cellsFrom_some _ _ _ (.inl q)⟩
    · subst he
      refine ⟨(e0.mod.nolimit.keeps keepB).keeps x.toInCall.keep, codeAny_func ?_⟩
      obtain ⟨t, ht, hq⟩ := hb A o s H vs Q E gd (hr.deeper _) hsp
      refine wpAny_mono (ht.nox.run [] s1 (L2.start N vs) H _ (inv_start S hr.hd e0 (len _ _ _ _ hsp) r x) hq) (fun fl s' hs => ?_) fun _ _ z => z
      cases fl with
      | ret u => obtain ⟨v, σ', H', J, rv, q⟩ := hs; exact ⟨v, H', J.os, J.bare, J.base, J.hok, rv, q⟩
      | next => obtain ⟨σ', H', J, q⟩ := hs; exact ⟨.non, H', J.os, J.bare, J.base, J.hok, rfl, q⟩
      | brk => obtain ⟨_, _, _, q⟩ := hs; exact q.elim
      | cont => obtain ⟨_, _, _, q⟩ := hs; exact q.elim
end
/-- a call of such a def -/
theorem pe_callG {X : Cx} {k : Nat} {f : Addr} {fd : FuncData} {ps : List Str} {sp : Sp} {x : Str} {p pos : Pos} {e : Expr} {es : List Expr} {t : TA} {E : XK} (F : FnG X.prog X.w X.K X.mg X.base k f fd ps sp) (gd : X.A.guards = some []) (hr : Room k X.A) (hg : Gl X x) (hm : X.mg x = some (.ref f)) (hk : PySem.W.keepIn X.K (.ref f) = true)
    (hb : Binds X.K fd ps []) (ha : PA X (e :: es) t) (hdb : (x == ("__debug__" : Str)) = false := by decide) (he : starEach (e :: es) X.env = (false, eval e X.env) :: starEach es X.env := by rfl) (hpl : (backTo pos (starEach es X.env)).any (·.1) = false := by rfl) :
    PE X (.Call (.Name x p) (e :: es) [] pos) (tCall sp [] E t) := by
  refine ⟨fun pins s σ H Q I h => wpAny_Call_Name_kw (ld_glob I hg hm (PySem.W.callWith_K (h₀ := X.base) I.ok.mod.kin hk (thn (ha.run pos pins s σ H _ I h) fun us s1 ⟨vs, H1, I1, r, q⟩ => ⟨I1.kIn, ?_⟩) he hpl) hdb)⟩
  have q : sp (vs ++ []) H1 Q E := q
  rw [List.append_nil] at q
  have hl : (us ++ ([] : List Value)).length = ps.length := by rw [List.append_nil, ← r.length]; exact F.len _ _ _ _ q
  have hbd := hb s1 us I1.kIn hl
  rw [List.append_nil] at hbd
  refine wpAny_call (codeAny_mono (F.run X.A X.stack s1 H1 ⟨us, []⟩ us vs Q E gd hr I1.env0 hbd r q) fun rr s' hq => ?_)
  cases rr with
  | error er => exact hq.elim
  | ok fl =>
    cases fl with
    | ret u => exact I1.after hq
    | next => exact hq.elim
    | brk => exact hq.elim
    | cont => exact hq.elim
/-- the law's own call -/
theorem lawG {P : Program} {w : World} {K : Fr} {mg mb : Str → Option Value} {k : Nat} {fa a : Addr} {fd : FuncData} {x : Str} {sp : Sp} {s1 : Shared} {vs : List Value} {ns : List Int}
    (KX : K.In s1.heap) (hns : s1.heap.Ns mainGlobals mg) (hb : s1.heap.Ns builtinsNs mb) (hbb : ∀ x : Str, x ≠ "__name__" → mb x = bootBuiltins x) (hlim : s1.heap.NoLimit) (hg : s1.gens = #[])
    (ha : s1.heap.get? a = some { cls := .type "list", data := .seq vs.toArray }) (hi : IntsAre vs ns) (hl : ns.length ≤ sizeLine) (hr : Room k callerA)
    (F : ∀ base : Heap, K.In base → base.Ns mainGlobals mg → FnG P w K mg base k fa fd [x] sp) (hbind : ∀ (s : Shared) (u : Value), BindsTo s fd ⟨[u], []⟩ [(x, u)])
    (hsp : ∀ H : Hp, Only H → SqL K H a (ns.map V.int) → sp [.ref a] H (fun v _ => v = .bl true) fun _ _ _ => False) :
    codeAny (model P w) callerA (.call (.ref fa) ⟨[.ref a], []⟩) (fun r s' => r = .ok (.ret (.bool true)) ∧ OldK s1.heap s'.heap ∧ s'.os = s1.os ∧ AllBare s'.gens) s1 := by
  have main : ∀ H : Hp, Only H → SqL K H a (ns.map V.int) → HOk P w H s1.heap → (∀ b, H b ≠ none → b = a ∧ K.lookup a = none) →
      codeAny (model P w) callerA (.call (.ref fa) ⟨[.ref a], []⟩) (fun r s' => r = .ok (.ret (.bool true)) ∧ OldK s1.heap s'.heap ∧ s'.os = s1.os ∧ AllBare s'.gens) s1 := fun H hO hS hok hA => by
    have free : ∀ {b : Addr} {o : Obj}, s1.heap.get? b = some o → b ≠ a ∨ (K.lookup a).isSome = true → H b = none := fun {b o} _ hx => by
      cases q : H b with
      | none => rfl
      | some u =>
        obtain ⟨z1, z2⟩ := hA b (by rw [q]; simp)
        rcases hx with hx | hx
        · exact absurd z1 hx
        · rw [z2] at hx; cases hx
    have ns' : ∀ {b : Addr} {m : Str → Option Value}, s1.heap.Ns b m → (hidT s1.heap H).Ns b m := fun {b m} ⟨o, es, ep, e, d, r⟩ => by
      refine ⟨o, es, ep, hidT_get e (free e (.inl fun z => ?_)), d, r⟩
      rw [z, ha] at e
      have d' := d
      cases e
      cases d'
    have kin : K.In (hidT s1.heap H) := fun b o e => hidT_get (KX b o e) (by
      by_cases z : b = a
      · exact free (KX b o e) (.inr (by rw [← z, e]; rfl))
      · exact free (KX b o e) (.inl z))
    have md : Mod K mg (hidT s1.heap H) := ⟨kin, ns' hns, ⟨mb, ns' hb, hbb⟩, by obtain ⟨mc, h1, h2⟩ := hlim; exact ⟨mc, ns' h1, h2⟩⟩
    have e0 : Env0 P w K mg (hidT s1.heap H) callerA [] s1 H := ⟨rfl, md, fun b o e => of_hidT e, Nat.le_of_eq (hidT_size _ _), trivial, fun b z => (by cases z), hok, .of_eq hg⟩
    refine codeAny_mono ((F _ kin (ns' hns)).run callerA [] s1 H ⟨[.ref a], []⟩ [.ref a] [.ref a] _ _ rfl hr e0 (hbind s1 (.ref a)) (.cons rfl .nil) (hsp H hO hS)) fun r s' h => ?_
    cases r with
    | error e => exact h.elim
    | ok fl =>
      cases fl with
      | next => exact h.elim
      | brk => exact h.elim
      | cont => exact h.elim
      | ret u =>
        obtain ⟨v, H', os, bare, un, hok', rv, q⟩ := h
        have q' : v = .bl true := q
        subst q'
        cases rv
        refine ⟨rfl, OldK.of_keep fun b o e => ?_, os, bare⟩
        cases q : H b with
        | none => exact un.keep b o e q (fun z => by cases z) fun z => by cases z
        | some u =>
          rcases hO b with z | ⟨ob, xs, z⟩
          · rw [q] at z; cases z
          · have e2 := (hok' b _ (un.frzs b ob _ z)).1
            have e1 := (hok b _ z).1
            rw [e] at e1; cases e1; exact e2
  have rv := vals_ints hi
  have lenV := hi.length
  cases hk : K.lookup a with
  | some o =>
    have e := KX a o hk
    rw [ha] at e; cases e
    exact main (fun _ => none) (fun _ => .inl rfl) (.inr ⟨_, vs.toArray, _, hk, rfl, rfl, rfl, by simpa [lenV] using hl, by simpa using rv⟩) (fun b u (z : none = some u) => by cases z) fun b z => absurd rfl z
  | none =>
    refine main (fun b => if b = a then some (.frz { cls := .type "list", data := .seq vs.toArray } (.lst (ns.map V.int))) else none) (fun b => ?_) (.inl (.inr ⟨{ cls := .type "list", data := .seq vs.toArray }, if_pos rfl⟩)) (fun b u z => ?_) fun b z => ?_
    · by_cases e : b = a
      · exact .inr ⟨_, _, if_pos e⟩
      · exact .inl (if_neg e)
    · have z : (if b = a then some (HO.frz { cls := .type "list", data := .seq vs.toArray } (.lst (ns.map V.int))) else none) = some u := z
      by_cases e : b = a
      · rw [if_pos e] at z
        cases z
        rw [e]
        exact ⟨ha, by rw [List.length_map]; exact hl, vs, _, rv, ha⟩
      · rw [if_neg e] at z; cases z
    · have z : (if b = a then some (HO.frz { cls := .type "list", data := .seq vs.toArray } (.lst (ns.map V.int))) else none) ≠ none := z
      by_cases e : b = a
      · exact ⟨e, hk⟩
      · rw [if_neg e] at z; exact absurd rfl z
theorem walkG {l : PySem.W.OpenLaw} {n k : Nat} {q : Program} {loose : List Str} {XP : (Str → Option Value) → Heap → Prop} {YP : World → Heap → Prop} {d : DefRec} {x : Str}
    (hn : l.most = some n) (hn2 : n ≤ sizeLine) (hdf : d.params.defaults = []) (hr : Room k callerA)
    (F : ∀ (w : World) (mg : Str → Option Value) (fa : Addr) (h : Heap), YP w h → h.Ns mainGlobals mg → mg d.name = some (.ref fa) →
      ∃ (K : Fr) (fd : FuncData) (sp : Sp), K.In h ∧ (∀ (s : Shared) (u : Value), BindsTo s fd ⟨[u], []⟩ [(x, u)]) ∧
        (∀ (H : Hp) (a : Addr) (ns : List Int), ns.length ≤ n → Only H → SqL K H a (ns.map V.int) → sp [.ref a] H (fun v _ => v = .bl true) fun _ _ _ => False) ∧
        ∀ base : Heap, K.In base → base.Ns mainGlobals mg → FnG l.prog w K mg base k fa fd [x] sp) :
    PySem.W.WalkO q loose XP YP l.row.toRowW d [] (fun f vs => PySem.call f vs) := by
  refine Att.attach_call hn hdf fun w s0 s1 mg mb fa o pm cd doc a vs ns G Y ho hd hcd hmg hobj hints hlen hg => ?_
  obtain ⟨K, fd, sp, KX, hb, hsp, hF⟩ := F w mg fa _ Y G.T.g hmg
  exact lawG KX G.T.g G.T.b G.T.builtins G.T.nolimit hg hobj hints (Nat.le_trans hlen hn2) hr hF hb fun H hO hS => hsp H a ns hlen hO hS
/-! ### repr -/
def rRepr (K : Fr) : List V → Hp → VK → Prop := fun vs H Q => ∃ v p, vs = [v] ∧ Dp K H v p ∧ (∃ a, v = .ref a) ∧ p.showable = true ∧ p.hasDict = false ∧ p.depth ≤ 100 ∧ p.shown.length ≤ sizeLine ∧ Q (.str p.shown) H
theorem call_repr {X : Cx} (gd : X.A.guards = some []) (hu : X.A.units + 101 < cLine) : CallR X (.builtin "repr") (rRepr X.K) := by
  intro pins s σ H xs us Q I r h
  obtain ⟨v, p, rfl, hd, ⟨a, rfl⟩, h1, h2, h3, h4, q⟩ := h
  obtain ⟨u, rfl, rx⟩ := vals1 r
  obtain ⟨as, rd⟩ := Dp.reads I p _ u hd rx
  cases rx
  exact repr_of_reads' rd h1 (fun z => by rw [h2] at z; cases z) gd (by omega) (fun _ _ e => e) (fun h' t tk kp => ⟨.str _, H, I.kept kp, ⟨_, rfl⟩, q⟩) h4
mutual
def depD : D → Nat
  | .lst l => depDs l + 1
  | .tup l => depDs l + 1
  | _ => 0
def depDs : List D → Nat
  | [] => 0
  | d :: l => max (depD d) (depDs l)
end
def showD (d : D) : Option Str := (toPy d).bind fun p => if p.showable = true ∧ p.depth ≤ 100 ∧ p.shown.length ≤ sizeLine then some p.shown else none
def isRf : D → Bool
  | .lst _ => true
  | .tup _ => true
  | _ => false
def gRepr : List D → Option Op
  | [d] => if isRf d = true then (showD d).map fun s => .val (.str s) else none
  | _ => none
mutual
theorem toPy_nodict : ∀ {d : D} {p : PyData}, toPy d = some p → p.hasDict = false
  | .non, p, h => by cases h; rfl
  | .bl b, p, h => by cases h; rfl
  | .int i, p, h => by cases h; rfl
  | .str x, p, h => by cases h; rfl
  | .lst l, p, h => by obtain ⟨ps, h1, h2⟩ := map_some h; subst h2; exact toPys_nodict h1
  | .tup l, p, h => by obtain ⟨ps, h1, h2⟩ := map_some h; subst h2; exact toPys_nodict h1
  | .dK _, p, h => by cases h
  | .dT _, p, h => by cases h
  | .ins _ _, p, h => by cases h
theorem toPys_nodict : ∀ {l : List D} {ps : List PyData}, toPys l = some ps → PyData.hasDictAll ps = false
  | [], ps, h => by cases h; rfl
  | d :: l, ps, h => by
    obtain ⟨p, h1, h⟩ := bind_some h
    obtain ⟨qs, h2, h3⟩ := map_some h
    subst h3
    show (p.hasDict || PyData.hasDictAll qs) = false
    rw [toPy_nodict h1, toPys_nodict h2]; rfl
end
theorem cj_repr {K : Fr} : CJ K (rRepr K) gRepr := fun ds o h U H vs dm rs Q q => by
  unfold gRepr at h
  split at h
  · split at h
    · rename_i d hr
      obtain ⟨s, h1, rfl⟩ := map_some h
      obtain ⟨p, h2, h3⟩ := bind_some h1
      split at h3
      · rename_i hc
        cases h3
        obtain ⟨v, rfl, r⟩ := rs.one
        refine ⟨v, p, rfl, repB_dp r h2, ?_, hc.1, toPy_nodict h2, hc.2.1, hc.2.2, OJ2.res dm (.str _) q⟩
        cases d with
        | lst l => obtain ⟨a, xs, rfl, _⟩ := r.lst; exact ⟨a, rfl⟩
        | tup l => obtain ⟨a, xs, rfl, _⟩ := r.tup; exact ⟨a, rfl⟩
        | _ => cases hr
      · cases h3
    · cases h
  · cases h
end DV

set_option Elab.async false
set_option linter.all false
set_option maxRecDepth 100000
set_option maxHeartbeats 1000000
namespace DV
open PySem PySem.Spec PyProof.Rows L2
/-! ### attributes -/
def lkF {α : Type} (l : List (Str × α)) (f : Str) : Option α := l.lookup f
theorem lk_rep {K : Fr} {G : Hp} (f : Str) : ∀ {fs : List (Str × V)} {l : List (Str × D)}, fs.map (·.1) = l.map (·.1) → Reps K G (fs.map (·.2)) (l.map (·.2)) →
    (l.lookup f = none ∧ fs.lookup f = none) ∨ ∃ d v, l.lookup f = some d ∧ fs.lookup f = some v ∧ Rep K G v d
  | [], [], _, _ => .inl ⟨rfl, rfl⟩
  | [], _ :: _, h, _ => by simp at h
  | _ :: _, [], h, _ => by simp at h
  | (a, v) :: fs, (b, d) :: l, h, r => by
    simp only [List.map_cons, List.cons.injEq] at h
    obtain ⟨rfl, h⟩ := h
    cases r with
    | cons r t =>
      simp only [List.lookup]
      cases e : f == a with
      | true => exact .inr ⟨d, v, rfl, rfl, r⟩
      | false => exact lk_rep f h t
def putA (f : Str) (y : D) : List (Str × D) → List (Str × D)
  | [] => [(f, y)]
  | (g, x) :: r => if g = f then (g, y) :: r else (g, x) :: putA f y r
theorem putA_rep {K : Fr} {G : Hp} {v : V} {y : D} (f : Str) (r0 : Rep K G v y) : ∀ {fs : List (Str × V)} {l : List (Str × D)}, fs.map (·.1) = l.map (·.1) → Reps K G (fs.map (·.2)) (l.map (·.2)) →
    (putF f v fs).map (·.1) = (putA f y l).map (·.1) ∧ Reps K G ((putF f v fs).map (·.2)) ((putA f y l).map (·.2))
  | [], [], _, _ => ⟨rfl, .cons r0 .nil⟩
  | [], _ :: _, h, _ => by simp at h
  | _ :: _, [], h, _ => by simp at h
  | (a, v') :: fs, (b, d) :: l, h, r => by
    simp only [List.map_cons, List.cons.injEq] at h
    obtain ⟨rfl, h⟩ := h
    cases r with
    | cons r t =>
      simp only [putF, putA]
      by_cases e : a = f
      · simp only [e, if_true, List.map_cons]
        exact ⟨by rw [h], .cons r0 t⟩
      · simp only [e, if_false, List.map_cons]
        obtain ⟨p, q⟩ := putA_rep f r0 h t
        exact ⟨by rw [p], .cons r q⟩
/-- e.f of an instance of one of the classes cs -/
def gFld (cs : List Str) (f : Str) (d : D) : Option D := match d with
  | .ins c l => if c ∈ cs then l.lookup f else none
  | _ => none
def fFld (cs : List Str) (f : Str) (fe : FE) : FE := fun ρ => (fe ρ).bind fun (o, ρ1) => (o.get ρ1).bind fun d => (gFld cs f d).map fun y => (.val y, ρ1)
theorem ej_fld {K : Fr} {te : TE} {fe : FE} {cs : List Str} {f : Str} (hc : ∀ c ∈ cs, Cls K (He.ga K c) ∧ NoAttr K (He.ga K c) f) (h : EJ K te fe) : EJ K (tFld K te f) (fFld cs f fe) := fun ρ o ρ' hf e B U σ H I Q q => by
  obtain ⟨⟨x, ρ1⟩, h1, hf⟩ := bind_some hf
  obtain ⟨d, h2, hf⟩ := bind_some hf
  obtain ⟨y, h3, hf⟩ := map_some hf
  cases hf
  refine h ρ x _ h1 e B U σ H I _ fun v U1 H1 P r => ?_
  unfold gFld at h3
  split at h3
  · split at h3
    · rename_i c l hm
      obtain ⟨a, dx, fs, rfl, e1, e2, e3⟩ := (r.b P.inv h2).ins
      obtain ⟨k1, k2⟩ := hc c hm
      rcases lk_rep f e2 e3 with ⟨z, _⟩ | ⟨d', w, z1, z2, z3⟩
      · rw [h3] at z; cases z
      · rw [h3] at z1; cases z1
        exact ⟨a, _, dx, fs, w, rfl, e1, k1, k2, z2, q w U1 H1 P z3⟩
    · cases h3
  · cases h3
/-- var i . f = e, for an owned instance -/
def sFldP (cs : List Str) (i : Nat) (f : Str) (fv : FE) : FS := fun ρ => (fF fv ρ).bind fun (y, ρ1) => (owd ρ1 i).bind fun (x, d) => match d with
  | .ins c l => if c ∈ cs ∧ l.length < 1000 then some (.nx (ρ1.set i (some (.ow x (.ins c (putA f y l)))))) else none
  | _ => none
theorem sj_fld {K : Fr} {tv : TE} {fv : FE} {cs : List Str} {i : Nat} {f : Str} (hc : ∀ c ∈ cs, Cls K (He.ga K c) ∧ NoAttr K (He.ga K c) f) (h : EJ K tv fv) : SJ K (sFld K (tVar i) tv f) (sFldP cs i f fv) := fun ρ o hf e B U σ H I N w => by
  obtain ⟨⟨y, ρ1⟩, h1, hf⟩ := bind_some hf
  obtain ⟨⟨x, d⟩, h2, hf⟩ := bind_some hf
  dsimp only at hf
  split at hf
  · split at hf
    · rename_i c l hm
      cases hf
      refine fj_of h ρ y ρ1 h1 e B U σ H I _ fun v U1 H1 P r => ?_
      obtain ⟨p, hp, hu, dx, fs, e1, e2, e3⟩ := P.inv.ow h2
      obtain ⟨k1, k2⟩ := hc c hm.1
      obtain ⟨p1, p2⟩ := putA_rep f r e2 e3
      refine ⟨_, hp, p, _, dx, fs, rfl, e1, k1, k2, by rw [map_len e2]; exact hm.2, ?_⟩
      exact w U1 σ _ (.of (P.trans I (P.inv.put (owd_some h2) hp ⟨dx, _, upd_same, p1, by rw [mask_poke hu]; exact p2⟩)))
    · cases hf
  · cases hf
/-! ### methods, properties -/
/-- the receiver: frozen, or an owned slot -/
def okSelf (c m : Str) (o : Op) (ρ : Rho) : Bool := match o, o.get ρ with
  | .own _, _ => false
  | _, some (.ins c' l) => c' == c && (l.lookup m).isNone
  | _, _ => false
theorem okSelf_ins {K : Fr} {e : List Addr} {B : Addr → Prop} {c m : Str} {o : Op} {ρ : Rho} {U : Addr → Bool} {σ : L2.St} {H H0 : Hp} {v : V} (I : Iv K e B ρ U σ H) (hk : okSelf c m o ρ = true) (r : ROp K ρ U σ H H0 v o) : ∃ a dx fs', v = .ref a ∧ H a = some (.ins (He.ga K c) dx fs') ∧ fs'.lookup m = none := by
  unfold okSelf at hk
  split at hk
  · cases hk
  · rename_i c' l _ hg
    obtain ⟨z1, z2⟩ := Bool.and_eq_true_iff.mp hk
    obtain rfl := beq_iff_eq.mp z1
    obtain ⟨a, dx, fs', rfl, e1, e2, e3⟩ := (r.b I hg).ins
    refine ⟨a, dx, fs', rfl, e1, ?_⟩
    rcases lk_rep m e2 e3 with ⟨_, z⟩ | ⟨d', w, z3, _⟩
    · exact z
    · rw [z3] at z2; cases z2
  · cases hk
def okCls (c : Str) (o : Op) (ρ : Rho) : Bool := match o, o.get ρ with
  | .own _, _ => false
  | _, some (.ins c' _) => c' == c
  | _, _ => false
theorem okCls_ins {K : Fr} {e : List Addr} {B : Addr → Prop} {c : Str} {o : Op} {ρ : Rho} {U : Addr → Bool} {σ : L2.St} {H H0 : Hp} {v : V} (I : Iv K e B ρ U σ H) (hk : okCls c o ρ = true) (r : ROp K ρ U σ H H0 v o) : ∃ a dx fs', v = .ref a ∧ H a = some (.ins (He.ga K c) dx fs') := by
  unfold okCls at hk
  split at hk
  · cases hk
  · rename_i c' l _ hg
    obtain rfl := beq_iff_eq.mp hk
    obtain ⟨a, dx, fs', rfl, e1, e2, e3⟩ := (r.b I hg).ins
    exact ⟨a, dx, fs', rfl, e1⟩
  · cases hk
def fMeth (c : Str) (m : Str) (fs : FN) (fo : FE) (fa : FA) : FE := fun ρ => (fo ρ).bind fun (o, ρ1) => if okSelf c m o ρ1 = true then (fa ρ1).bind fun (os, ρ2) => (callF fs (o :: os) ρ2).map fun (r, ρ3) => (resOp r, ρ3) else none
theorem ej_meth {K : Fr} {c m : Str} {fs : FN} {E : XK} {to : TE} {fo : FE} {ta : TA} {fa : FA} (h : EJ K to fo) (ha : AJ K ta fa) : EJ K (tMeth (He.ga K c) m (spF K fs) [] E to ta) (fMeth c m fs fo fa) := fun ρ o ρ' hf e B U σ H I Q q => by
  obtain ⟨⟨x, ρ1⟩, h1, hf⟩ := bind_some hf
  dsimp only at hf
  split at hf
  · rename_i hk
    obtain ⟨⟨os, ρ2⟩, h3, hf⟩ := bind_some hf
    obtain ⟨⟨r, ρ3⟩, h4, hf⟩ := map_some hf
    cases hf
    refine h ρ x ρ1 h1 e B U σ H I _ fun v U1 H1 P1 r1 => ?_
    obtain ⟨a, dx, fs', rfl, e1, e2⟩ := okSelf_ins P1.inv hk r1
    refine ⟨a, dx, fs', rfl, e1, e2, ha ρ1 os ρ2 h3 e B U1 σ H1 P1.inv _ fun vs U2 H2 P2 r2 => ?_⟩
    rw [List.append_nil]
    exact call_core I (P1.trans I P2) (.cons (r1.step P2) (r2.back P1.stp.dm)) h4 q
  · cases hf
def fProp (c : Str) (fs : FN) (fo : FE) : FE := fun ρ => (fo ρ).bind fun (o, ρ1) => if okCls c o ρ1 = true then (callF fs [o] ρ1).map fun (r, ρ3) => (resOp r, ρ3) else none
theorem ej_prop {K : Fr} {c : Str} {fs : FN} {E : XK} {to : TE} {fo : FE} (h : EJ K to fo) : EJ K (tProp (He.ga K c) (spF K fs) [] E to) (fProp c fs fo) := fun ρ o ρ' hf e B U σ H I Q q => by
  obtain ⟨⟨x, ρ1⟩, h1, hf⟩ := bind_some hf
  dsimp only at hf
  split at hf
  · rename_i hk
    obtain ⟨⟨r, ρ3⟩, h4, hf⟩ := map_some hf
    cases hf
    refine h ρ x ρ1 h1 e B U σ H I _ fun v U1 H1 P1 r1 => ?_
    obtain ⟨a, dx, fs', rfl, e1⟩ := okCls_ins P1.inv hk r1
    exact ⟨a, dx, fs', rfl, e1, call_core I P1 (.cons r1 .nil) h4 q⟩
  · cases hf
/-! ### calls by keywords alone -/
/-- the parameters' values out of the keywords': ix tells the place of each parameter's keyword -/
def permL {α : Type} (ix : List Nat) (l : List α) : List α := ix.filterMap fun i => l[i]?
structure KB (K : Fr) (fd : FuncData) (ps ks : List Str) (first : Nat) (ix : List Nat) : Prop where
  to : ∀ (s : Shared) (xs us : List Value), xs.length = first → us.length = ks.length → BindsTo s fd ⟨xs, ks.zip us⟩ (ps.zip (xs ++ permL ix us))
theorem permL_vals {vs : List V} {us : List Value} (r : Vals vs us) : ∀ ix : List Nat, Vals (permL ix vs) (permL ix us)
  | [] => .nil
  | i :: ix => by
    unfold permL
    rw [List.filterMap_cons, List.filterMap_cons]
    cases e : vs[i]? with
    | none => rw [Vals.none_of r e]; exact permL_vals r ix
    | some v => obtain ⟨u, h1, h2⟩ := r.get e; rw [h1]; exact .cons h2 (permL_vals r ix)
theorem rel_ref {a : Addr} : L2.RelV (.ref a) (.ref a) := rfl
def tCallQ (sp : Sp) (n : Nat) (ix : List Nat) (E : XK) (tk : TA) : TE := fun σ H Q => tk σ H fun zs H1 => zs.length = n ∧ sp (permL ix zs) H1 Q E
theorem pe_callQ {X : Cx} {k : Nat} {f : Addr} {fd : FuncData} {ps ks : List Str} {sp : Sp} {x : Str} {p pos : Pos} {kws : List Keyword} {tk : TA} {E : XK} {ix : List Nat} (F : FnOk X.prog X.w X.K X.mg X.base CX0 k f fd ps sp) (hr : Room k X.A) (hg : Gl X x) (hm : X.mg x = some (.ref f)) (hk : PySem.W.keepIn X.K (.ref f) = true) (hb : KB X.K fd ps ks 0 ix)
    (hkw : PK X kws tk) (hall : (backToKw pos (keywordEach kws X.env)).all (·.1.isSome) = true := by rfl) (hks : (backToKw pos (keywordEach kws X.env)).filterMap (·.1) = ks := by rfl) (hdb : (x == ("__debug__" : Str)) = false := by decide)
    (hpl : ((backTo pos (starEach [] X.env)).any (·.1) || (backToKw pos (keywordEach kws X.env)).any (·.1.isNone)) = false := by rfl) : PE X (.Call (.Name x p) [] kws pos) (tCallQ sp ks.length ix E tk) := by
  refine ⟨fun pins s σ H Q I h => wpAny_Call_Name_kw (ld_glob I hg hm (PySem.W.callWith_KW0 (h₀ := X.base) I.ok.mod.kin hk hall (thn (hkw.run pos pins s σ H _ I h) fun ws s2 ⟨zs, H2, I2, rz, l1, q⟩ => ⟨I2.kIn, ?_⟩) hpl) hdb)⟩
  rw [hks]
  have hl : ws.length = ks.length := by rw [← rz.length]; exact l1
  refine wpAny_call (codeAny_mono (F.run X.A X.stack s2 H2 ⟨[], ks.zip ws⟩ (permL ix ws) _ Q E hr I2.env0 (hb.to s2 [] ws rfl hl) (permL_vals rz ix) q) fun rr s' hq => ?_)
  cases rr with
  | error er => exact hq.elim
  | ok fl =>
    cases fl with
    | ret u => exact I2.after hq
    | next => exact hq.elim
    | brk => exact hq.elim
    | cont => exact hq.elim
def tMethQ (C : Addr) (m : Str) (sp : Sp) (n : Nat) (ix : List Nat) (E : XK) (to : TE) (tk : TA) : TE := fun σ H Q => to σ H fun x H1 => ∃ a dx fs, x = .ref a ∧ H1 a = some (.ins C dx fs) ∧ fs.lookup m = none ∧ tk σ H1 fun zs H2 => zs.length = n ∧ sp (x :: permL ix zs) H2 Q E
theorem pe_methQ {X : Cx} {k : Nat} {C f : Addr} {fd : FuncData} {ps ks : List Str} {sp : Sp} {m : Str} {apos pos : Pos} {o : Expr} {to : TE} {kws : List Keyword} {tk : TA} {E : XK} {ix : List Nat} {pl : Sem Bool} (he : PE X o to) (c : Cls X.K C) (hm : Meth X.K C m f) (F : FnOk X.prog X.w X.K X.mg X.base CX0 k f fd ps sp) (hr : Room k X.A) (hb : KB X.K fd ps ks 1 ix)
    (hkw : PK X kws tk) (hall : (backToKw pos (keywordEach kws X.env)).all (·.1.isSome) = true := by rfl) (hks : (backToKw pos (keywordEach kws X.env)).filterMap (·.1) = ks := by rfl)
    (hpl : ((backTo pos (starEach [] X.env)).any (·.1) || (backToKw pos (keywordEach kws X.env)).any (·.1.isNone)) = false := by rfl)
    (ht : eval (.Call (.Attribute o m apos) [] kws pos) X.env = (do
      let ov ← eval o X.env
      standAt apos.atName
      let (f, first) ← holding [ov] (getMethod ov m pl)
      callWith pos f first (backTo pos (starEach [] X.env)) (backToKw pos (keywordEach kws X.env))) := by rfl) :
    PE X (.Call (.Attribute o m apos) [] kws pos) (tMethQ C m sp ks.length ix E to tk) := by
  refine ⟨fun pins s σ H Q I h => PySem.W.methodCall_KW (pl := pl) (thn (he.run pins s σ H _ I h) fun u s1 ⟨x, H1, I1, rx, a, dx, fs, ex, ea, l, q⟩ => ?_) ht⟩
  subst ex
  obtain rfl : u = Value.ref a := rx
  refine getmeth_ok I1 ea c hm l (PySem.W.callWith_KW0 (first := [.ref a]) (h₀ := X.base) I.ok.mod.kin hm.kp hall (thn (hkw.run pos pins s1 σ H1 _ I1 q) fun ws s2 ⟨zs, H2, I2, rz, l1, q2⟩ => ⟨I2.kIn, ?_⟩) hpl)
  rw [hks]
  have hl : ws.length = ks.length := by rw [← rz.length]; exact l1
  refine wpAny_call (codeAny_mono (F.run X.A X.stack s2 H2 ⟨[.ref a], ks.zip ws⟩ (.ref a :: permL ix ws) _ Q E hr I2.env0 (hb.to s2 [.ref a] ws rfl hl) (.cons rel_ref (permL_vals rz ix)) q2) fun rr s' hq => ?_)
  cases rr with
  | error er => exact hq.elim
  | ok fl =>
    cases fl with
    | ret u => exact I2.after hq
    | next => exact hq.elim
    | brk => exact hq.elim
    | cont => exact hq.elim
theorem permL_rops {K : Fr} {ρ : Rho} {U : Addr → Bool} {σ : L2.St} {H H0 : Hp} {vs : List V} {os : List Op} (r : ROps K ρ U σ H H0 vs os) : ∀ ix : List Nat, ROps K ρ U σ H H0 (permL ix vs) (permL ix os)
  | [] => .nil
  | i :: ix => by
    unfold permL
    rw [List.filterMap_cons, List.filterMap_cons]
    cases e : os[i]? with
    | none =>
      have e2 : vs[i]? = none := by
        have h1 := List.getElem?_eq_none_iff.mp e
        exact List.getElem?_eq_none_iff.mpr (by rw [r.len]; exact h1)
      rw [e2]; exact permL_rops r ix
    | some v => obtain ⟨u, h1, h2⟩ := r.get e; rw [h1]; exact .cons h2 (permL_rops r ix)
def fCallQ (fs : FN) (n : Nat) (ix : List Nat) (fa : FA) : FE := fun ρ => (fa ρ).bind fun (os, ρ1) => if os.length = n then (callF fs (permL ix os) ρ1).map fun (r, ρ2) => (resOp r, ρ2) else none
theorem ej_callQ {K : Fr} {fs : FN} {n : Nat} {ix : List Nat} {E : XK} {ta : TA} {fa : FA} (ha : AJ K ta fa) : EJ K (tCallQ (spF K fs) n ix E ta) (fCallQ fs n ix fa) := fun ρ o ρ' hf e B U σ H I Q q => by
  obtain ⟨⟨os, ρ1⟩, h1, hf⟩ := bind_some hf
  dsimp only at hf
  split at hf
  · rename_i hn
    obtain ⟨⟨r, ρ2⟩, h2, hf⟩ := map_some hf
    cases hf
    exact ha ρ os ρ1 h1 e B U σ H I _ fun vs U1 H1 P ro => ⟨by rw [ro.len]; exact hn, call_core I P (permL_rops ro ix) h2 q⟩
  · cases hf
def fMethQ (c : Str) (m : Str) (fs : FN) (n : Nat) (ix : List Nat) (fo : FE) (fa : FA) : FE := fun ρ => (fo ρ).bind fun (o, ρ1) => if okSelf c m o ρ1 = true then (fa ρ1).bind fun (os, ρ2) => if os.length = n then (callF fs (o :: permL ix os) ρ2).map fun (r, ρ3) => (resOp r, ρ3) else none else none
theorem ej_methQ {K : Fr} {c m : Str} {fs : FN} {n : Nat} {ix : List Nat} {E : XK} {to : TE} {fo : FE} {ta : TA} {fa : FA} (h : EJ K to fo) (ha : AJ K ta fa) : EJ K (tMethQ (He.ga K c) m (spF K fs) n ix E to ta) (fMethQ c m fs n ix fo fa) := fun ρ o ρ' hf e B U σ H I Q q => by
  obtain ⟨⟨x, ρ1⟩, h1, hf⟩ := bind_some hf
  dsimp only at hf
  split at hf
  · rename_i hk
    obtain ⟨⟨os, ρ2⟩, h3, hf⟩ := bind_some hf
    dsimp only at hf
    split at hf
    · rename_i hn
      obtain ⟨⟨r, ρ3⟩, h4, hf⟩ := map_some hf
      cases hf
      refine h ρ x ρ1 h1 e B U σ H I _ fun v U1 H1 P1 r1 => ?_
      obtain ⟨a, dx, fs', rfl, e1, e2⟩ := okSelf_ins P1.inv hk r1
      refine ⟨a, dx, fs', rfl, e1, e2, ha ρ1 os ρ2 h3 e B U1 σ H1 P1.inv _ fun vs U2 H2 P2 r2 => ⟨by rw [r2.len]; exact hn, ?_⟩⟩
      exact call_core I (P1.trans I P2) (.cons (r1.step P2) (permL_rops (r2.back P1.stp.dm) ix)) h4 q
    · cases hf
  · cases hf
/-! ### == of two instances of one class by its own __eq__ -/
def rEqI (C : Addr) (sp : Sp) (E : XK) : R2 := fun x y H Q => ∃ a b dx dy fs gs, x = .ref a ∧ y = .ref b ∧ H a = some (.ins C dx fs) ∧ H b = some (.ins C dy gs) ∧ sp [x, y] H (fun v H' => ∃ k, v = .bl k ∧ Q (.bl k) H') E
theorem op_eqI {X : Cx} {n : Nat} {C f : Addr} {fd : FuncData} {ps : List Str} {sp : Sp} {E : XK} (F : FnOk X.prog X.w X.K X.mg X.base CX0 n f fd ps sp) (hr : Room n X.A) (hs : PySem.W.findIn X.K (.ref C) "__eq__" = some (some (.ref f))) (hf : PySem.W.isFn X.K (.ref f) = true) (hb : Binds X.K fd ps []) : OpR X (compareOp .Eq) (rEqI C sp E) := by
  intro pins s σ H x y v u Q I rx ry hq
  obtain ⟨a, b, dx, dy, fs, gs, rfl, rfl, e1, e2, q⟩ := hq
  cases rx; cases ry
  obtain ⟨mA, J, _⟩ := ins_get I.hok e1
  obtain ⟨mB, J', _⟩ := ins_get I.hok e2
  obtain ⟨od, J, _⟩ := J.look
  obtain ⟨od', J', _⟩ := J'.look
  obtain ⟨m, hF⟩ := I.fr
  show wpAny (model X.prog X.w) X.A (richCompare .Eq (.ref a) (.ref b)) (EP X pins σ Q) X.xe s
  refine PySem.W.cmp_K (op := .Eq) (tb := .ref C) hr.units0 hF I.ok.mod.kin J J'.type (by simp [PySem.W.notFirst]) hs hf ?_
  have hl := F.len _ _ _ _ q
  have hbd := hb s [.ref a, .ref b] I.kIn (by simpa using hl)
  refine wpAny_call (codeAny_mono (F.run X.A X.stack s H ⟨[.ref a, .ref b], []⟩ [.ref a, .ref b] [.ref a, .ref b] _ E hr I.env0 (by simpa using hbd) (.cons rel_ref (.cons rel_ref .nil)) q) fun rr s' hq => ?_)
  cases rr with
  | error er => exact hq.elim
  | ok fl =>
    cases fl with
    | ret w =>
      obtain ⟨z, H', I', rz, k, ez, q'⟩ := I.after hq
      subst ez
      cases rz
      exact ⟨.bl k, H', I', rfl, q'⟩
    | next => exact hq.elim
    | brk => exact hq.elim
    | cont => exact hq.elim
def gEqI (c : Str) (x y : D) : Bool := match x, y with
  | .ins c1 _, .ins c2 _ => c1 == c && c2 == c
  | _, _ => false
def isBl : L → Option Bool
  | .fz (.bl k) => some k
  | _ => none
theorem isBl_eq {r : L} {k : Bool} (h : isBl r = some k) : r = .fz (.bl k) := by
  unfold isBl at h
  split at h
  · cases h; rfl
  · cases h
/-- both sides frozen -/
def fEqI (c : Str) (fs : FN) (fa fb : FE) : FE := fun ρ => (fF fa ρ).bind fun (x, ρ1) => (fF fb ρ1).bind fun (y, ρ2) => if gEqI c x y = true then (callF fs [.val x, .val y] ρ2).bind fun (r, ρ3) => (isBl r).map fun k => (.val (.bl k), ρ3) else none
theorem ej_eqI {K : Fr} {c : Str} {fs : FN} {E : XK} {ta tb : TE} {fa fb : FE} (ha : EJ K ta fa) (hb : EJ K tb fb) : EJ K (tOp (rEqI (He.ga K c) (spF K fs) E) ta tb) (fEqI c fs fa fb) := fun ρ o ρ' hf e B U σ H I Q q => by
  obtain ⟨⟨x, ρ1⟩, h1, hf⟩ := bind_some hf
  obtain ⟨⟨y, ρ2⟩, h2, hf⟩ := bind_some hf
  dsimp only at hf
  split at hf
  · rename_i hg
    obtain ⟨⟨r, ρ3⟩, h3, hf⟩ := bind_some hf
    obtain ⟨k, h4, hf⟩ := map_some hf
    cases hf
    unfold gEqI at hg
    split at hg
    · rename_i c1 l1 c2 l2
      obtain ⟨z1, z2⟩ := Bool.and_eq_true_iff.mp hg
      obtain rfl := beq_iff_eq.mp z1
      obtain rfl := beq_iff_eq.mp z2
      refine fj_of ha ρ _ ρ1 h1 e B U σ H I _ fun v U1 H1 P1 r1 => fj_of hb ρ1 _ _ h2 e B U1 σ H1 P1.inv _ fun w U2 H2 P2 r2 => ?_
      have r1' := Rep.le P2.stp.le r1
      obtain ⟨a, dx, gs, rfl, e1, _⟩ := (show RepB K U2 H2 v _ from .inl r1').ins
      obtain ⟨b, dy, gs', rfl, e3, _⟩ := (show RepB K U2 H2 w _ from .inl r2).ins
      refine ⟨a, b, dx, dy, gs, gs', rfl, rfl, e1, e3, ?_⟩
      refine call_core I (P1.trans I P2) (vs := [.ref a, .ref b]) (os := [.val (.ins l1 c1), .val (.ins l1 c2)]) (.cons r1' (.cons r2 .nil)) h3 fun v' U' H' P' r' => ?_
      have h4' : isBl r = some k := h4
      rw [isBl_eq h4'] at r'
      have r'' : Rep K (mask U' H') v' (.bl k) := r'
      cases r''
      exact ⟨k, rfl, q _ U' H' P' (show Rep K (mask U' H') (.bl k) (.bl k) from .bl k)⟩
    · cases hg
  · cases hf
end DV

set_option Elab.async false
set_option linter.all false
set_option maxRecDepth 100000
set_option maxHeartbeats 1000000
namespace DV
open PySem PySem.Spec PyProof.Rows L2
/-! ### range downwards, enumerate -/
section
variable {K : Fr} {U : Addr → Bool} {H : Hp}
theorem iter_rangeC {lo c : Int} {n : Nat} : Iter K (Itc lo c n) (rangeD lo c n) U H := fun U2 H2 L dm => by
  refine ⟨fun i hi => ?_, fun i hi => show n ≤ i by simpa [rangeD] using hi⟩
  have hi' : i < n := by simpa [rangeD] using hi
  refine ⟨hi', fun x H3 y => ?_⟩
  obtain ⟨rfl, rfl⟩ := y
  exact ⟨.refl dm, .int (lo + i * c), by simp [rangeD, hi'], .int _⟩
def enumD : Nat → List D → List D
  | _, [] => []
  | n, d :: ds => .tup [.int (n : Nat), d] :: enumD (n + 1) ds
theorem enumD_len : ∀ (ds : List D) (n : Nat), (enumD n ds).length = ds.length
  | [], _ => rfl
  | _ :: ds, n => congrArg (· + 1) (enumD_len ds (n + 1))
theorem enumD_get : ∀ {ds : List D} {n i : Nat} {d : D}, ds[i]? = some d → (enumD n ds)[i]? = some (.tup [.int ((n + i : Nat) : Int), d])
  | [], _, _, _, h => by simp at h
  | a :: ds, n, 0, d, h => by
    cases h; rfl
  | a :: ds, n, i + 1, d, h => by
    have := enumD_get (n := n + 1) (ds := ds) (i := i) (d := d) h
    have e : n + 1 + i = n + (i + 1) := by omega
    rw [e] at this
    exact this
theorem iter_enum {a : Addr} {xs : List V} {ds : List D} (h : mask U H a = some (.lst xs)) (r : Reps K (mask U H) xs ds) : Iter K (Ite K a) (enumD 0 ds) U H := fun U2 H2 L dm => by
  obtain ⟨hu, ha⟩ := mask_some h
  obtain ⟨hu2, o', ha2, kp⟩ := L a _ hu ha
  cases kp
  have hs : SqL K H2 a xs := SqL.of ha2
  rw [enumD_len]
  refine ⟨fun i hi => ?_, fun i hi => ⟨xs, hs, by rw [r.length]; exact hi⟩⟩
  obtain ⟨v, h1, h2⟩ := r.get (List.getElem?_eq_getElem hi)
  refine ⟨⟨xs, v, hs, h1⟩, fun x H3 y => ?_⟩
  obtain ⟨T, z, rfl, hT, rfl, y⟩ := y
  have := y xs hs
  rw [h1] at this; cases this
  have E : Ext U2 H2 U2 (upd H2 T (.tup [.int (i : Nat), v])) := .new hT dm
  refine ⟨E, _, enumD_get (n := 0) (List.getElem?_eq_getElem hi), ?_⟩
  have e : ((0 + i : Nat) : Int) = (i : Int) := by omega
  rw [e]
  have rv : Rep K (mask U2 H2) v _ := h2.le L.le
  exact RRes.tup hT dm (.cons (.int _) (.cons rv .nil))
end
def fRange3 (fa : FA) : FI := fun ρ => (fa ρ).bind fun (os, ρ1) => match os with
  | [.val (.int i), .val (.int j), .val (.int c)] => if c = -1 ∧ rangeOk i j = true then some (rangeD i (-1) (i - j).toNat, ρ1) else none
  | _ => none
def fEnum (fa : FA) : FI := fun ρ => (fa ρ).bind fun (os, ρ1) => match os with
  | [.val (.lst ds)] => some (enumD 0 ds, ρ1)
  | _ => none
section
variable {K : Fr} {te : TE} {f : FE} {ta : TA} {fa : FA}
theorem rops_int3 {ρ : Rho} {U : Addr → Bool} {σ : L2.St} {H H0 : Hp} {vs : List V} {i j c : Int} (h : ROps K ρ U σ H H0 vs [.val (.int i), .val (.int j), .val (.int c)]) : vs = [.int i, .int j, .int c] := by
  cases h with
  | cons r t =>
    rw [rops_int2 t]
    have r' : Rep K (mask U H) _ (.int i) := r
    cases r'; rfl
theorem ij_range3 (h : AJ K ta fa) : IJ K (iRng3 ta) (fRange3 fa) := fun ρ ds ρ' hf e B U σ H I R q => by
  obtain ⟨⟨os, ρ1⟩, h1, h2⟩ := bind_some hf
  dsimp only at h2
  split at h2
  · split at h2
    · rename_i i j c hj
      obtain ⟨rfl, hj⟩ := hj
      cases h2
      refine h ρ _ ρ' h1 e B U σ H I _ fun vs U1 H1 P r => ?_
      obtain ⟨a, b, c, d⟩ := rangeOk_of hj
      exact ⟨_, _, _, _, rops_int3 r, RgC.neg a b c d, q _ U1 H1 P iter_rangeC⟩
    · cases h2
  · cases h2
theorem ij_enum (h : AJ K ta fa) : IJ K (iEnum K ta) (fEnum fa) := fun ρ ds ρ' hf e B U σ H I R q => by
  obtain ⟨⟨os, ρ1⟩, h1, h2⟩ := bind_some hf
  dsimp only at h2
  split at h2
  · rename_i l
    cases h2
    refine h ρ _ ρ' h1 e B U σ H I _ fun vs U1 H1 P r => ?_
    cases r with
    | cons r t =>
      cases t
      have r' : Rep K (mask U1 H1) _ (.lst l) := r
      cases r' with
      | lst hm r => exact ⟨_, _, rfl, SqL.of (mask_some hm).2, q _ U1 H1 P (iter_enum hm r)⟩
  · cases h2
end
/-! ### augmented assignments of ints -/
def ipM : TIp := fun x y H Q => ∃ i j, x = .int i ∧ y = .int j ∧ MulOk i j ∧ Q (.int (i * j)) H
theorem ip_mul {X : Cx} : PIp X .Mult ipM := by
  intro pins s σ H x y v u Q I r1 r2 h
  obtain ⟨i, j, e1, e2, hm, q⟩ := h
  subst e1; subst e2
  obtain ⟨t, rfl⟩ := r1
  obtain ⟨t', rfl⟩ := r2
  exact PyProof.Rows.imul_int ⟨.int _, H, I.tok _, ⟨_, rfl⟩, q⟩ (by
    rcases hm with hm | hm
    · exact CMul.ok hm
    · exact CMulW.ok hm)
def IPJ (ti : TIp) (g : Int → Int → Option Int) : Prop := ∀ i j k, g i j = some k → ∀ (H : Hp) (Q : VK), Q (.int k) H → ti (.int i) (.int j) H Q
def gIAdd (i j : Int) : Option Int := some (i + j)
def gISub (i j : Int) : Option Int := some (i - j)
def gIMul (i j : Int) : Option Int := if MulOk i j then some (i * j) else none
theorem ipj_add : IPJ (ipI fun i j => i + j) gIAdd := fun i j k h H Q q => by
  cases h; exact ⟨_, _, rfl, rfl, q⟩
theorem ipj_sub : IPJ (ipI fun i j => i - j) gISub := fun i j k h H Q q => by
  cases h; exact ⟨_, _, rfl, rfl, q⟩
theorem ipj_mul : IPJ ipM gIMul := fun i j k h H Q q => by
  unfold gIMul at h
  split at h
  · rename_i hm
    cases h
    exact ⟨_, _, rfl, rfl, hm, q⟩
  · cases h
def intAt (ρ : Rho) (i : Nat) : Option Int := match ρ[i]? with
  | some (some (.fz (.int k))) => some k
  | _ => none
def intD : D → Option Int
  | .int k => some k
  | _ => none
theorem intD_eq {d : D} {k : Int} (h : intD d = some k) : d = .int k := by
  unfold intD at h
  split at h
  · cases h; rfl
  · cases h
theorem intAt_eq {ρ : Rho} {i : Nat} {k : Int} (h : intAt ρ i = some k) : ρ[i]? = some (some (.fz (.int k))) := by
  unfold intAt at h
  split at h
  · rename_i z
    cases h; exact z
  · cases h
def sAugN (i : Nat) (g : Int → Int → Option Int) (f : FE) : FS := fun ρ => (intAt ρ i).bind fun a => (fF f ρ).bind fun (d, ρ1) => (intD d).bind fun b => (g a b).map fun c => .nx (ρ1.set i (some (.fz (.int c))))
theorem sj_augN {K : Fr} {i : Nat} {ti : TIp} {g : Int → Int → Option Int} {te : TE} {f : FE} (hg : IPJ ti g) (h : EJ K te f) : SJ K (tAug i te ti) (sAugN i g f) := fun ρ o hf e B U σ H I N w => by
  obtain ⟨a, h1, hf⟩ := bind_some hf
  obtain ⟨⟨d, ρ1⟩, h2, hf⟩ := bind_some hf
  obtain ⟨b, h3, hf⟩ := bind_some hf
  obtain ⟨c, h4, hf⟩ := map_some hf
  cases hf
  have h3' : d = .int b := intD_eq h3
  subst h3'
  obtain ⟨v0, hv0, r0⟩ := I.slot _ _ (intAt_eq h1)
  have r0' : Rep K (mask U H) v0 (.int a) := r0
  cases r0'
  refine ⟨_, hv0, fj_of h ρ _ ρ1 h2 e B U σ H I _ fun v U1 H1 P r => ?_⟩
  cases r
  refine hg a b c h4 _ _ ?_
  exact w U1 _ H1 ((SPost.of P).trans I (setFz P.inv (.int c)).s)
/-- o[i], by values, as the opening of an o[i] op= e -/
theorem get_list {X : Cx} : PGet X (rIxL X.K) := by
  intro pins s σ H x y v u Q I rx ry h
  obtain ⟨p, xs, i, z, rfl, rfl, hq, he, q⟩ := h
  cases rx
  obtain ⟨t, rfl⟩ := ry
  obtain ⟨its, r, pl, hz⟩ := I.list hq
  obtain ⟨j, h1, h2, h3, h4, h5⟩ := atI_get he
  obtain ⟨w, ew, rw'⟩ := r.get h2
  have hl := r.length
  have hn := line63
  have fin : EP X pins σ Q w s := ⟨z, H, I, rw', q⟩
  by_cases h0 : 0 ≤ i
  · have hj : i.toNat = j := by
      rw [seqIndex_of h0 h5] at h1
      exact Option.some.inj h1
    exact wpAny_getItem_list pl.isList h0 (by omega) (by rw [hj]; simpa using ew) fin
  · have hj : (i + (its.toArray.size : Int)).toNat = j := by
      rw [seqIndex_neg (by omega) h4] at h1
      rw [List.size_toArray, ← hl]
      exact Option.some.inj h1
    exact wpAny_getItem_list_neg pl.isList (by omega) (by rw [List.size_toArray] <;> omega) (by omega) (by rw [hj]; simpa using ew) fin
/-- var i [f] op= fv, for an owned list of ints there -/
def listAt (d : D) (k : Int) : Option D := match d with
  | .lst l => L2.atI l k
  | _ => none
def valInt : Op → Option Int
  | .val (.int k) => some k
  | _ => none
theorem valInt_eq {o : Op} {k : Int} (h : valInt o = some k) : o = .val (.int k) := by
  unfold valInt at h
  split at h
  · cases h; rfl
  · cases h
def sAugL (i : Nat) (g : Int → Int → Option Int) (f fv : FE) : FS := fun ρ => (owd ρ i).bind fun _ => (f ρ).bind fun (o, ρ1) => (valInt o).bind fun k => (owd ρ1 i).bind fun (_, d) => (listAt d k).bind fun x => (intD x).bind fun a =>
  (fF fv ρ1).bind fun (y, ρ2) => (intD y).bind fun b => (g a b).bind fun c => (owd ρ2 i).bind fun (x, d) => (setD d k (.int c)).map fun d' => .nx (ρ2.set i (some (.ow x d')))
theorem sj_augL {K : Fr} {i : Nat} {tip : TIp} {g : Int → Int → Option Int} {ti te : TE} {f fv : FE} (hg : IPJ tip g) (hi : EJ K ti f) (hv : EJ K te fv) : SJ K (tAugS (tVar i) ti te (rIxL K) tip rSetL) (sAugL i g f fv) := fun ρ o hf e B U σ H I N w => by
  obtain ⟨⟨x0, d0⟩, h0, hf⟩ := bind_some hf
  obtain ⟨⟨oi, ρ1⟩, h1, hf⟩ := bind_some hf
  obtain ⟨k, h2, hf⟩ := bind_some hf
  obtain ⟨⟨x1, d1⟩, h3, hf⟩ := bind_some hf
  obtain ⟨xd, h4, hf⟩ := bind_some hf
  obtain ⟨a, h5, hf⟩ := bind_some hf
  obtain ⟨⟨yd, ρ2⟩, h6, hf⟩ := bind_some hf
  obtain ⟨b, h7, hf⟩ := bind_some hf
  obtain ⟨c, h8, hf⟩ := bind_some hf
  obtain ⟨⟨x2, d2⟩, h9, hf⟩ := bind_some hf
  obtain ⟨d', h10, hf⟩ := map_some hf
  cases hf
  have e1 : oi = .val (.int k) := valInt_eq h2
  subst e1
  have e2 : xd = .int a := intD_eq h5
  subst e2
  have e3 : yd = .int b := intD_eq h7
  subst e3
  obtain ⟨p, hp, _⟩ := I.ow h0
  refine ⟨_, hp, hi ρ _ ρ1 h1 e B U σ H I _ fun kv U1 H1 P1 r1 => ?_⟩
  have e4 : kv = .int k := rop_int r1
  subst e4
  obtain ⟨p', hp', hu', hr'⟩ := P1.inv.ow h3
  rw [hp] at hp'; cases hp'
  unfold listAt at h4
  split at h4
  · rename_i l
    obtain ⟨xs, g1, g2⟩ := hr'
    obtain ⟨v, g3, g4⟩ := g2.atI h4
    cases g4
    refine ⟨p, xs, k, _, rfl, rfl, SqL.of g1, g3, fj_of hv ρ1 _ ρ2 h6 e B U1 σ H1 P1.inv _ fun yv U2 H2 P2 r2 => ?_⟩
    cases r2
    refine hg a b c h8 _ _ ?_
    obtain ⟨p'', hp'', hu'', hr''⟩ := P2.inv.ow h9
    rw [hp] at hp''; cases hp''
    obtain ⟨ys, j, q1, q2, q3⟩ := setD_ok hu'' h10 hr'' (.int c)
    refine ⟨p, ys, k, j, rfl, rfl, q1, q2, ?_⟩
    exact w U2 σ _ (.of ((P1.trans I P2).trans I (P2.inv.put (owd_some h9) hp q3)))
  · cases h4
/-! ### isinstance(x, C) of an instance of C itself -/
def rIsC (C : Addr) : List V → Hp → VK → Prop := fun xs H Q => ∃ a dx fs, xs = [.ref a, .ref C] ∧ H a = some (.ins C dx fs) ∧ Q (.bl true) H
theorem call_isCr {X : Cx} {C : Addr} (c : C8.InsC X.K C) : CallR X (.builtin "isinstance") (rIsC C) := C8.call_isC c
def fIsC (c : Str) (f : FE) : FE := fun ρ => (f ρ).bind fun (o, ρ1) => if okCls c o ρ1 = true then some (.val (.bl true), ρ1) else none
theorem ej_isC {K : Fr} {c : Str} {te : TE} {f : FE} (h : EJ K te f) : EJ K (tCB (rIsC (He.ga K c)) (tCons te (tCons (tC (.ref (He.ga K c))) tNil))) (fIsC c f) := fun ρ o ρ' hf e B U σ H I Q q => by
  obtain ⟨⟨x, ρ1⟩, h1, hf⟩ := bind_some hf
  dsimp only at hf
  split at hf
  · rename_i hk
    cases hf
    refine h ρ x _ h1 e B U σ H I _ fun v U1 H1 P1 r1 => ?_
    obtain ⟨a, dx, fs', rfl, e1⟩ := okCls_ins P1.inv hk r1
    exact ⟨a, dx, fs', rfl, e1, q _ U1 H1 P1 (show Rep K (mask U1 H1) (.bl true) (.bl true) from .bl true)⟩
  · cases hf
end DV

set_option Elab.async false
set_option linter.all false
set_option maxRecDepth 100000
set_option maxHeartbeats 1000000
namespace DV
open PySem PySem.Spec PyProof.Rows L2
/-! ### both readings in one -/
structure QE (X : Cx) (K : Fr) (e : Expr) (t : TE) (f : FE) : Prop where
  p : PE X e t
  j : EJ K t f
structure QA (X : Cx) (K : Fr) (es : List Expr) (t : TA) (f : FA) : Prop where
  p : PA X es t
  j : AJ K t f
structure QK (X : Cx) (K : Fr) (ks : List Keyword) (t : TA) (f : FA) : Prop where
  p : PK X ks t
  j : AJ K t f
structure QT (X : Cx) (K : Fr) (e : Expr) (t : TT) (f : FT) : Prop where
  p : PT X e t
  j : TJ K t f
structure QW (X : Cx) (K : Fr) (e : Expr) (t : TT) (f : FT) : Prop where
  p : PW X e t
  j : TJ K t f
structure QTs (X : Cx) (K : Fr) (es : List Expr) (t : TT) (f : FT) : Prop where
  p : PTs X es t
  j : TJ K t f
structure QS (X : Cx) (K : Fr) (s : Stmt) (t : TS) (f : FS) : Prop where
  p : PS X s t
  j : SJ K t f
structure QSs (X : Cx) (K : Fr) (s : List Stmt) (t : TS) (f : FS) : Prop where
  p : PSs X s t
  j : SJ K t f
structure QG (X : Cx) (K : Fr) (e : Expr) (t : TG) (f : FV) (is : List Nat) : Prop where
  p : PG X e t
  j : VJ K t f is
structure QGs (X : Cx) (K : Fr) (e : List Expr) (t : TGs) (f : List FV) (is : List Nat) : Prop where
  p : PGs X e t
  j : VLJ K t f is
structure QI (X : Cx) (K : Fr) (tg e : Expr) (t : TI) (f : FI) : Prop where
  p : PI X tg e t
  j : IJ K t f
structure QO (X : Cx) (K : Fr) (e : Option Expr) (t : TO) (f : FO) : Prop where
  p : PO X e t
  j : PJ K t f
section
variable {X : Cx} {K : Fr} {a b c e o : Expr} {es : List Expr} {ta tb te to : TE} {fa fb fe fo : FE} {ua : TA} {ga' : FA} {pos : Pos} {tt tu : TT} {ft fu : FT} {ts tv : TS} {fs fv : FS}
/-! expressions -/
theorem q_int {i j pos} (k0 : X.K = K := by rfl) : QE X K (.Constant (.int i) j pos) (tC (.int i)) (fC (.int i)) := by
  cases k0
  exact ⟨pe_int, ej_c fun _ => .int i⟩
theorem q_bl {i j pos} (k0 : X.K = K := by rfl) : QE X K (.Constant (.bool i) j pos) (tC (.bl i)) (fC (.bl i)) := by
  cases k0
  exact ⟨pe_bl, ej_c fun _ => .bl i⟩
theorem q_non {j pos} (k0 : X.K = K := by rfl) : QE X K (.Constant .none j pos) (tC .non) (fC .non) := by
  cases k0
  exact ⟨pe_non, ej_c fun _ => .non⟩
theorem q_str {i j pos} (k0 : X.K = K := by rfl) : QE X K (.Constant (.str i) j pos) (tC (.str i)) (fC (.str i)) := by
  cases k0
  exact ⟨pe_str, ej_c fun _ => .str i⟩
theorem q_v (i : Nat) {x : Str} (hN : X.N[i]? = some x := by rfl) (hv : Vis X.env.scope x := by first | exact Or.inl rfl | exact Or.inr (Or.inl rfl) | exact Or.inr (Or.inr rfl)) (hd : (x == ("__debug__" : Str)) = false := by decide)
    (hcd : (x == ("__classdict__" : Str)) = false := by decide) (k0 : X.K = K := by rfl) : QE X K (.Name x pos) (tVar i) (fV i) := by
  cases k0
  exact ⟨pe_var hN hv hd hcd, ej_v⟩
theorem q_op {op : Operator} {r : R2} {g : D → D → Option Op} (hj : OJ2 K r g) (ho : OpR X (binaryOp op) r) (ha : QE X K a ta fa) (hb : QE X K b tb fb) (k0 : X.K = K := by rfl) : QE X K (.BinOp a op b pos) (tOp r ta tb) (fOp2 g fa fb) := by
  cases k0
  exact ⟨pe_op ho ha.p hb.p, ej_op hj ha.j hb.j⟩
theorem q_cmp {op : CmpOp} {r : R2} {g : D → D → Option Op} (hj : OJ2 K r g) (ho : OpR X (compareOp op) r) (ha : QE X K a ta fa) (hb : QE X K b tb fb) (hm : behindInMarks op b = false := by exact nomark _) (k0 : X.K = K := by rfl) : QE X K (.Compare a [op] [b] pos) (tOp r ta tb) (fOp2 g fa fb) := by
  cases k0
  exact ⟨pe_cmpR ho ha.p hb.p hm, ej_op hj ha.j hb.j⟩
theorem q_neg (ha : QE X K a ta fa) (k0 : X.K = K := by rfl) : QE X K (.UnaryOp .USub a pos) (tUn (rU fun i => .int (-i)) ta) (fOp1 gNeg fa) := by
  cases k0
  exact ⟨pe_un un_neg ha.p, ej_un oj_neg ha.j⟩
theorem q_ix {k : Nat} (hr : Room k X.A) (ha : QE X K a ta fa) (hb : QE X K b tb fb) (hs : PlainIx b := by intro _ _; rfl) (k0 : X.K = K := by rfl) : QE X K (.Subscript a b pos) (tOp (rIxA K) ta tb) (fOp2 gIx fa fb) := by
  cases k0
  exact ⟨pe_ix (ix_any (hu_of hr)) ha.p hb.p hs, ej_op oj_ix ha.j hb.j⟩
theorem q_anil (k0 : X.K = K := by rfl) : QA X K [] tNil aNil := by
  cases k0
  exact ⟨pa_nil, aj_nil⟩
theorem q_ab (ha : QE X K e te fe) (hr : QA X K es ua ga') (hs : starEach (e :: es) X.env = (false, eval e X.env) :: starEach es X.env := by rfl) (k0 : X.K = K := by rfl) : QA X K (e :: es) (tCons te ua) (aB fe ga') := by
  cases k0
  exact ⟨pa_cons ha.p hr.p hs, aj_b ha.j hr.j⟩
theorem q_af (ha : QE X K e te fe) (hr : QA X K es ua ga') (hs : starEach (e :: es) X.env = (false, eval e X.env) :: starEach es X.env := by rfl) (k0 : X.K = K := by rfl) : QA X K (e :: es) (tCons te ua) (aF fe ga') := by
  cases k0
  exact ⟨pa_cons ha.p hr.p hs, aj_f ha.j hr.j⟩
theorem q_knil (k0 : X.K = K := by rfl) : QK X K [] tNil aNil := by
  cases k0
  exact ⟨pk_nil, aj_nil⟩
theorem q_kb {kws : List Keyword} {nm} {kp : Pos} (ha : QE X K e te fe) (hr : QK X K kws ua ga') (k0 : X.K = K := by rfl) : QK X K (⟨nm, e, kp⟩ :: kws) (tCons te ua) (aB fe ga') := by
  cases k0
  exact ⟨pk_cons ha.p hr.p, aj_b ha.j hr.j⟩
theorem q_kf {kws : List Keyword} {nm} {kp : Pos} (ha : QE X K e te fe) (hr : QK X K kws ua ga') (k0 : X.K = K := by rfl) : QK X K (⟨nm, e, kp⟩ :: kws) (tCons te ua) (aF fe ga') := by
  cases k0
  exact ⟨pk_cons ha.p hr.p, aj_f ha.j hr.j⟩
theorem q_tup {x1} (h : QA X K es ua ga') (k0 : X.K = K := by rfl) : QE X K (.Tuple es x1 pos) (tTup ua) (fTup ga') := by
  cases k0
  exact ⟨pe_tup h.p, ej_tup h.j⟩
theorem q_lst (h : QA X K es ua ga') (k0 : X.K = K := by rfl) : QE X K (.List es pos) (tLst ua) (fLst ga') := by
  cases k0
  exact ⟨pe_lst h.p, ej_lst h.j⟩
theorem q_if (hc : QT X K c tt ft) (ha : QE X K a ta fa) (hb : QE X K b tb fb) (k0 : X.K = K := by rfl) : QE X K (.IfExp c a b pos) (tIf tt ta tb) (fIf ft fa fb) := by
  cases k0
  exact ⟨pe_ifExp hc.p ha.p hb.p, ej_if hc.j ha.j hb.j⟩
theorem q_and {rest : List Expr} (ha : QE X K a ta fa) (hb : QE X K (.BoolOp .And (b :: rest) pos) tb (fB fu)) (k0 : X.K = K := by rfl) : QE X K (.BoolOp .And (a :: b :: rest) pos) (tAndV ta tb) (fB (fAnd (fT fa) fu)) := by
  cases k0
  exact ⟨pe_and ha.p hb.p, ej_andV ha.j hb.j⟩
theorem q_or {rest : List Expr} (ha : QE X K a ta fa) (hb : QE X K (.BoolOp .Or (b :: rest) pos) tb (fB fu)) (k0 : X.K = K := by rfl) : QE X K (.BoolOp .Or (a :: b :: rest) pos) (tOrV ta tb) (fB (fOr (fT fa) fu)) := by
  cases k0
  exact ⟨pe_or ha.p hb.p, ej_orV ha.j hb.j⟩
theorem q_last {op} (ha : QE X K a ta fa) (k0 : X.K = K := by rfl) : QE X K (.BoolOp op [a] pos) ta (fB (fT fa)) := by
  cases k0
  exact ⟨pe_one ha.p, ej_lastV ha.j⟩
theorem q_not (ha : QE X K a ta fa) (k0 : X.K = K := by rfl) : QE X K (.UnaryOp .Not a pos) (tNotV ta) (fB (fNot (fT fa))) := by
  cases k0
  exact ⟨pe_not ha.p, ej_notV ha.j⟩
theorem q_onone (k0 : X.K = K := by rfl) : QO X K none tNoPart fNoP := by
  cases k0
  exact ⟨po_none, pj_none⟩
theorem q_osome (h : QE X K e te fe) (k0 : X.K = K := by rfl) : QO X K (some e) (tPart te) (fP fe) := by
  cases k0
  exact ⟨po_some h.p, pj_some h.j⟩
theorem q_sl {lo hi : Option Expr} {tl th : TO} {fl fh : FO} {p2} (h : QE X K e te fe) (hl : QO X K lo tl fl) (hh : QO X K hi th fh) (k0 : X.K = K := by rfl) : QE X K (.Subscript e (.Slice lo hi none p2) pos) (tSl (rSlAll K) te tl th) (fSl fe fl fh) := by
  cases k0
  exact ⟨pe_slice sl_any h.p hl.p hh.p, ej_sl h.j hl.j hh.j⟩
theorem q_b {id : String} {x : Str} {p : Pos} {r : List V → Hp → VK → Prop} {g : List D → Option Op} (hj : CJ K r g) (hc : CallR X (.builtin id) r) (hm : X.mg x = none) (ha : QA X K (e :: es) ua ga') (hg : Gl X x := by rfl) (hv : bootBuiltins x = some (.builtin id) := by rfl) (hn : x ≠ "__name__" := by decide) (hdb : (x == ("__debug__" : Str)) = false := by decide)
    (he : starEach (e :: es) X.env = (false, eval e X.env) :: starEach es X.env := by rfl) (hpl : (backTo pos (starEach es X.env)).any (·.1) = false := by rfl) (k0 : X.K = K := by rfl) : QE X K (.Call (.Name x p) (e :: es) [] pos) (tCB r ua) (fCall g ga') := by
  cases k0
  exact ⟨pe_callB hc hg hm hv ha.p hn hdb he hpl, ej_cb hj ha.j⟩
theorem q_ty {T : String} {x : Str} {p : Pos} {r : List V → Hp → VK → Prop} {g : List D → Option Op} (hj : CJ K r g) (hc : CallR X (.type T) r) (hm : X.mg x = none) (ha : QA X K (e :: es) ua ga') (hg : Gl X x := by rfl) (hv : bootBuiltins x = some (.type T) := by rfl) (hn : x ≠ "__name__" := by decide) (hdb : (x == ("__debug__" : Str)) = false := by decide)
    (he : starEach (e :: es) X.env = (false, eval e X.env) :: starEach es X.env := by rfl) (hpl : (backTo pos (starEach es X.env)).any (·.1) = false := by rfl) (k0 : X.K = K := by rfl) : QE X K (.Call (.Name x p) (e :: es) [] pos) (tCB r ua) (fCall g ga') := by
  cases k0
  exact ⟨pe_callTy hc hg hm hv ha.p hn hdb he hpl, ej_cb hj ha.j⟩
theorem q_fld {f : Str} {cs : List Str} (hc : ∀ c ∈ cs, Cls K (He.ga K c) ∧ NoAttr K (He.ga K c) f) (ha : QE X K e te fe) (hb : attributeBase e f X.env (eval e X.env) = eval e X.env := by rfl) (k0 : X.K = K := by rfl) : QE X K (.Attribute e f pos) (tFld K te f) (fFld cs f fe) := by
  cases k0
  exact ⟨pe_fld ha.p hb, ej_fld hc ha.j⟩
/-- a new object at once as data -/
theorem q_frz (h : QE X K e te fe) (k0 : X.K = K := by rfl) : QE X K e te (fO (fF fe)) := by
  cases k0
  exact ⟨h.p, ej_of (fj_of h.j)⟩
/-! tests -/
theorem q_tc {op : CmpOp} {r : R2} {g : D → D → Option Op} (hj : OJ2 K r g) (ho : OpR X (compareOp op) r) (ha : QE X K a ta fa) (hb : QE X K b tb fb) (hm : behindInMarks op b = false := by exact nomark _) (k0 : X.K = K := by rfl) : QT X K (.Compare a [op] [b] pos) (tTest (tOp r ta tb)) (fT (fOp2 g fa fb)) := by
  cases k0
  exact ⟨pt_cmpR ho ha.p hb.p hm, tj_test (ej_op hj ha.j hb.j)⟩
theorem q_t (h : QE X K e te fe) (he : ∀ whole, isTrue e X.env whole = (do let v ← whole; standAt e.pos; holding [v] (truthy v)) := by intro _; rfl) (k0 : X.K = K := by rfl) : QT X K e (tB te) (fT fe) := by
  cases k0
  exact ⟨pt_val h.p he, tj_b h.j⟩
theorem q_tn (h : QT X K a tt ft) (k0 : X.K = K := by rfl) : QT X K (.UnaryOp .Not a pos) (tNot tt) (fNot ft) := by
  cases k0
  exact ⟨pt_not h.p, tj_not h.j⟩
theorem q_wa1 (h : QT X K a tt ft) (k0 : X.K = K := by rfl) : QW X K (.BoolOp .And [a] pos) tt ft := by
  cases k0
  exact ⟨pw_and1 h.p, h.j⟩
theorem q_wo1 (h : QT X K a tt ft) (k0 : X.K = K := by rfl) : QW X K (.BoolOp .Or [a] pos) tt ft := by
  cases k0
  exact ⟨pw_or1 h.p, h.j⟩
theorem q_wa {rest : List Expr} (h : QT X K a tt ft) (g : QW X K (.BoolOp .And (b :: rest) pos) tu fu) (k0 : X.K = K := by rfl) : QW X K (.BoolOp .And (a :: b :: rest) pos) (tAnd tt tu) (fAnd ft fu) := by
  cases k0
  exact ⟨pw_and h.p g.p, tj_and h.j g.j⟩
theorem q_wo {rest : List Expr} (h : QT X K a tt ft) (g : QW X K (.BoolOp .Or (b :: rest) pos) tu fu) (k0 : X.K = K := by rfl) : QW X K (.BoolOp .Or (a :: b :: rest) pos) (tOr tt tu) (fOr ft fu) := by
  cases k0
  exact ⟨pw_or h.p g.p, tj_or h.j g.j⟩
theorem q_w (h : QW X K e tt ft) (k0 : X.K = K := by rfl) : QT X K e tt ft := by
  cases k0
  exact ⟨h.p.pt, h.j⟩
theorem q_ts0 (k0 : X.K = K := by rfl) : QTs X K [] tYes ftYes := by
  cases k0
  exact ⟨pts_nil, tj_yes⟩
theorem q_ts1 (h : QT X K c tt ft) (k0 : X.K = K := by rfl) : QTs X K [c] tt ft := by
  cases k0
  exact ⟨pts_one h.p, h.j⟩
/-! targets -/
theorem q_gn (i : Nat) {x : Str} (hN : X.N.Nodup) (hi : X.N[i]? = some x := by rfl) (hx : Loc X.env.scope x := by first | exact Or.inl rfl | exact Or.inr rfl) (hf : X.fn x = true ∨ X.env.scope.names.lookup x = some .local := by first | exact .inl rfl | exact .inr rfl) (k0 : X.K = K := by rfl) : QG X K (.Name x pos) (gName i) (vN i) [i] := by
  cases k0
  exact ⟨pg_name hN hi hx hf, vj_name⟩
theorem q_gs0 (k0 : X.K = K := by rfl) : QGs X K [] gNil [] [] := by
  cases k0
  exact ⟨pgs_nil, vlj_nil⟩
theorem q_gs {g : TG} {gs : TGs} {v : FV} {vs : List FV} {is js : List Nat} (h : QG X K e g v is) (hs : QGs X K es gs vs js) (hz : (assignEach (e :: es) X.env).map (·.2) = assign e X.env :: (assignEach es X.env).map (·.2) := by rfl) (k0 : X.K = K := by rfl) : QGs X K (e :: es) (gCons g gs) (v :: vs) (is ++ js) := by
  cases k0
  exact ⟨pgs_cons h.p hs.p hz, vlj_cons h.j hs.j⟩
theorem q_gt (n : Nat) {k : Nat} {gs : TGs} {vs : List FV} {is : List Nat} (h : QGs X K es gs vs is) (hc : X.calm = true := by rfl) (hn : (assignEach es X.env).length = n := by rfl) (hl : vs.length = n := by rfl) (hst : (assignEach es X.env).findIdx? (·.1) = none := by rfl) (k0 : X.K = K := by rfl) : QG X K (.Tuple es k pos) (gTup K n gs) (vT vs) is := by
  cases k0
  exact ⟨pg_tup hc h.p hn hst, vj_tup h.j hl⟩
/-! iterables -/
theorem q_il {tg : Expr} (h : QE X K e te fe) (k0 : X.K = K := by rfl) : QI X K tg e (iList K te) (fIterL fe) := by
  cases k0
  exact ⟨pi_list h.p, ij_list h.j⟩
theorem q_it {tg : Expr} (h : QE X K e te fe) (k0 : X.K = K := by rfl) : QI X K tg e (iTup K te) (fIterT fe) := by
  cases k0
  exact ⟨pi_tup h.p, ij_tup h.j⟩
theorem q_r1 {tg : Expr} {p : Pos} (hm : X.mg "range" = none) (ha : QA X K [a] ua ga') (hg : Gl X "range" := by rfl) (hs : starEach [a] X.env = [(false, eval a X.env)] := by rfl) (k0 : X.K = K := by rfl) : QI X K tg (.Call (.Name "range" p) [a] [] pos) (iRng1 ua) (fRange1 ga') := by
  cases k0
  exact ⟨pi_range1 hg hm ha.p hs, ij_range1 ha.j⟩
theorem q_r2 {tg : Expr} {p : Pos} (hm : X.mg "range" = none) (ha : QA X K [a, b] ua ga') (hg : Gl X "range" := by rfl) (hs : starEach [a, b] X.env = [(false, eval a X.env), (false, eval b X.env)] := by rfl) (hs2 : starEach [b] X.env = [(false, eval b X.env)] := by rfl) (k0 : X.K = K := by rfl) : QI X K tg (.Call (.Name "range" p) [a, b] [] pos) (iRng2 ua) (fRange2 ga') := by
  cases k0
  exact ⟨pi_range2 hg hm ha.p hs hs2, ij_range2 ha.j⟩
theorem q_r3 {tg : Expr} {p : Pos} (hm : X.mg "range" = none) (ha : QA X K [a, b, c] ua ga') (hg : Gl X "range" := by rfl) (hs : starEach [a, b, c] X.env = (false, eval a X.env) :: starEach [b, c] X.env := by rfl) (hpl : (backTo pos (starEach [b, c] X.env)).any (·.1) = false := by rfl) (k0 : X.K = K := by rfl) : QI X K tg (.Call (.Name "range" p) [a, b, c] [] pos) (iRng3 ua) (fRange3 ga') := by
  cases k0
  exact ⟨pi_range3 hg hm ha.p hs hpl, ij_range3 ha.j⟩
theorem q_en {elts : List Expr} {kk : Nat} {tpos p : Pos} (hm : X.mg "enumerate" = none) (ha : QA X K [e] ua ga') (hg : Gl X "enumerate" := by rfl) (hs : starEach [e] X.env = [(false, eval e X.env)] := by rfl) (k0 : X.K = K := by rfl) : QI X K (.Tuple elts kk tpos) (.Call (.Name "enumerate" p) [e] [] pos) (iEnum K ua) (fEnum ga') := by
  cases k0
  exact ⟨pi_enum hg hm ha.p hs, ij_enum ha.j⟩
theorem q_lc {elt tg iter : Expr} {ifs : List Expr} {scope : Scope} {wi : TI} {fi : FI} {g : TG} {gv : FV} {is : List Nat} (own : List (Str × Nat)) (hN : X.N.Nodup) (hi : QI X K tg iter wi fi) (ok : BlkOk X.N X.env.scope scope own)
    (hg : ∀ (s : Shared) (H : Hp) (C : Addr) (cl : List (Str × Addr)) (fp : List Addr), QG (X.blk s H scope (compEnvC scope cl C X.env) fp) K tg g gv is) (ht : ∀ (s : Shared) (H : Hp) (C : Addr) (cl : List (Str × Addr)) (fp : List Addr), QTs (X.blk s H scope (compEnvC scope cl C X.env) fp) K ifs tt ft)
    (he : ∀ (s : Shared) (H : Hp) (C : Addr) (cl : List (Str × Addr)) (fp : List Addr), QE (X.blk s H scope (compEnvC scope cl C X.env) fp) K elt te fe) (his : ∀ j ∈ is, j ∈ own.map (·.2) := by decide) (hc : X.calm = true := by rfl) (hs : ∀ x, foldedSetIterable iter X.env x = pure x := by intro _; rfl) (k0 : X.K = K := by rfl) :
    QE X K (.ListComp elt [⟨tg, iter, ifs, 0⟩] scope pos) (tLc wi g tt te (own.map (·.2))) (fLc fi gv ft fe (own.map (·.2))) := by
  cases k0
  exact ⟨pe_lc hc hN hi.p ok (fun s H C cl fp => (hg s H C cl fp).p) (fun s H C cl fp => (ht s H C cl fp).p) (fun s H C cl fp => (he s H C cl fp).p) hs, ej_lc hi.j (hg X.s_0 X.H_0 0 [] []).j his (ht X.s_0 X.H_0 0 [] []).j (he X.s_0 X.H_0 0 [] []).j⟩
/-! statements -/
theorem q_nil (k0 : X.K = K := by rfl) : QSs X K [] tNext sNx := by
  cases k0
  exact ⟨pss_nil, sj_nx⟩
theorem q_seq {st : Stmt} {rest : List Stmt} (h : QS X K st ts fs) (g : QSs X K rest tv fv) (k0 : X.K = K := by rfl) : QSs X K (st :: rest) (tSeq ts tv) (sSeq fs fv) := by
  cases k0
  exact ⟨pss_cons h.p g.p, sj_seq h.j g.j⟩
theorem q_one {st : Stmt} (h : QS X K st ts fs) (k0 : X.K = K := by rfl) : QSs X K [st] ts fs := by
  cases k0
  exact ⟨pss_one h.p, h.j⟩
theorem q_pass (k0 : X.K = K := by rfl) : QS X K (.Pass pos) tNext sNx := by
  cases k0
  exact ⟨ps_pass, sj_nx⟩
theorem q_brk (k0 : X.K = K := by rfl) : QS X K (.Break pos) tBreak sBrk := by
  cases k0
  exact ⟨ps_break, sj_brk⟩
theorem q_cnt (k0 : X.K = K := by rfl) : QS X K (.Continue pos) tCont sCnt := by
  cases k0
  exact ⟨ps_continue, sj_cnt⟩
theorem q_never {st : Stmt} (k0 : X.K = K := by rfl) : QS X K st tNever (fun _ => none) := by
  cases k0
  exact ⟨ps_never, sj_never⟩
theorem q_expr (h : QE X K e te fe) (hs : swapsWith e none pos.line X.env = pure false := by rfl) (k0 : X.K = K := by rfl) : QS X K (.Expr e pos) (tDrop te) (sExpr fe) := by
  cases k0
  exact ⟨ps_expr h.p hs, sj_expr h.j⟩
theorem q_ret (h : QE X K e te fe) (k0 : X.K = K := by rfl) : QS X K (.Return (some e) pos) (tRet te) (sRet fe) := by
  cases k0
  exact ⟨ps_ret h.p, sj_ret h.j⟩
theorem q_retN (k0 : X.K = K := by rfl) : QS X K (.Return none pos) tRetN sRetN := by
  cases k0
  exact ⟨ps_retN, sj_retN⟩
theorem q_ifs {a b : List Stmt} (hc : QT X K c tt ft) (ha : QSs X K a ts fs) (hb : QSs X K b tv fv) (k0 : X.K = K := by rfl) : QS X K (.If c a b pos) (tIfS tt ts tv) (sIf ft fs fv) := by
  cases k0
  exact ⟨ps_if hc.p ha.p hb.p, sj_if hc.j ha.j hb.j⟩
theorem q_set (i : Nat) {x : Str} {p' : Pos} (hN : X.N.Nodup) (h : QE X K e te fe) (hi : X.N[i]? = some x := by rfl) (hx : Loc X.env.scope x := by first | exact Or.inl rfl | exact Or.inr rfl) (hs : swapsWith e (some (.Name x p')) pos.line X.env = pure false := by rfl) (hf : X.fn x = true ∨ X.env.scope.names.lookup x = some .local := by first | exact .inl rfl | exact .inr rfl) (k0 : X.K = K := by rfl) : QS X K (.Assign [.Name x p'] e pos) (tAsg te (gName i)) (sSet i fe) := by
  cases k0
  exact ⟨ps_set hN hi hx h.p hs hf, sj_set h.j⟩
theorem q_setLc (i : Nat) {y : Str} {py spos : Pos} {elt tg iter : Expr} {ifs : List Expr} {scope : Scope} {wi : TI} {fi : FI} {g : TG} {gv : FV} {is : List Nat} (own : List (Str × Nat)) (hN : X.N.Nodup) (hi : QI X K tg iter wi fi) (ok : BlkOk X.N X.env.scope scope own)
    (hg : ∀ (s : Shared) (H : Hp) (C : Addr) (cl : List (Str × Addr)) (fp : List Addr), QG (X.blk s H scope (compEnvC scope cl C X.env) fp) K tg g gv is) (ht : ∀ (s : Shared) (H : Hp) (C : Addr) (cl : List (Str × Addr)) (fp : List Addr), QTs (X.blk s H scope (compEnvC scope cl C X.env) fp) K ifs tt ft)
    (he : ∀ (s : Shared) (H : Hp) (C : Addr) (cl : List (Str × Addr)) (fp : List Addr), QE (X.blk s H scope (compEnvC scope cl C X.env) fp) K elt te fe) (his : ∀ j ∈ is, j ∈ own.map (·.2) := by decide) (hc : X.calm = true := by rfl) (hs : ∀ x, foldedSetIterable iter X.env x = pure x := by intro _; rfl)
    (hy : X.N[i]? = some y := by rfl) (hyl : X.env.scope.names.lookup y = some .local := by rfl) (hsw : swapsWith (.ListComp elt [⟨tg, iter, ifs, 0⟩] scope pos) (some (.Name y py)) spos.line X.env = pure true := by rfl) (k0 : X.K = K := by rfl) :
    QS X K (.Assign [.Name y py] (.ListComp elt [⟨tg, iter, ifs, 0⟩] scope pos) spos) (tAsg (tLc wi g tt te (own.map (·.2))) (gName i)) (sSet i (fLc fi gv ft fe (own.map (·.2)))) := by
  cases k0
  exact ⟨ps_setLc hc hN hy hyl hsw hi.p ok (fun s H C cl fp => (hg s H C cl fp).p) (fun s H C cl fp => (ht s H C cl fp).p) (fun s H C cl fp => (he s H C cl fp).p) hs, sj_set (ej_lc hi.j (hg X.s_0 X.H_0 0 [] []).j his (ht X.s_0 X.H_0 0 [] []).j (he X.s_0 X.H_0 0 [] []).j)⟩
theorem hu101 {A : Around} {j : Nat} (hr : Room j A) : A.units + 101 < cLine := by have := hr.un; omega
theorem q_asg {tg : Expr} {g : TG} {v : FV} {is : List Nat} (h : QE X K e te fe) (hg : QG X K tg g v is) (hs : swapsWithSole [tg] e pos.line X.env = pure false := by rfl) (hw : swappedStores [tg] e X.env = pure none := by rfl) (h1 : (assignEach [tg] X.env).map (·.2) = [assign tg X.env] := by rfl) (k0 : X.K = K := by rfl) : QS X K (.Assign [tg] e pos) (tAsg te g) (sAsgV v fe) := by
  cases k0
  exact ⟨ps_asg h.p hg.p hs hw h1, sj_asgV h.j hg.j⟩
theorem q_par (i j : Nat) {x y : Str} {px py pt : Pos} {kt k2 pt2} (hN : X.N.Nodup) (ha : QE X K a ta fa) (hb : QE X K b tb fb) (hi : X.N[i]? = some x := by rfl) (hj : X.N[j]? = some y := by rfl) (hij : i ≠ j := by decide) (hx : X.env.scope.names.lookup x = some .local := by rfl) (hy : X.env.scope.names.lookup y = some .local := by rfl) (hc : X.calm = true := by rfl)
    (hw : swappedStores [.Tuple [.Name x px, .Name y py] kt pt] (.Tuple [a, b] k2 pt2) X.env = pure (some [x, y]) := by rfl) (hs : swapsWithSole [.Tuple [.Name x px, .Name y py] kt pt] (.Tuple [a, b] k2 pt2) pos.line X.env = pure false := by rfl) (h1 : starEach [a, b] X.env = (false, eval a X.env) :: starEach [b] X.env := by rfl) (h2 : starEach [b] X.env = (false, eval b X.env) :: starEach [] X.env := by rfl) (k0 : X.K = K := by rfl) :
    QS X K (.Assign [.Tuple [.Name x px, .Name y py] kt pt] (.Tuple [a, b] k2 pt2) pos) (tPar i j (tCons ta (tCons tb tNil))) (sPar i j fa fb) := by
  cases k0
  exact ⟨ps_par hc hN hi hj hij hx hy (pa_cons ha.p (pa_cons hb.p pa_nil h2) h1) hw hs, sj_par ha.j hb.j⟩
theorem q_for {tg : Expr} {body : List Stmt} {wi : TI} {fi : FI} {g : TG} {gv : FV} {is : List Nat} (hi : QI X K tg e wi fi) (hg : QG X K tg g gv is) (hb : QSs X K body ts fs) (hp : PassesOwn (model X.prog X.w) X.A X.env X.xe := by exact PassesOwn.never) (hc : X.calm = true := by rfl) (hs : ∀ x, foldedSetIterable e X.env x = pure x := by intro _; rfl) (k0 : X.K = K := by rfl) :
    QS X K (.For tg e body [] pos) (tFor wi g ts) (sFor fi gv fs) := by
  cases k0
  exact ⟨ps_for hp hc hi.p hg.p hb.p hs, sj_for hi.j hg.j hb.j⟩
theorem q_while {body : List Stmt} (hc : QT X K c tt ft) (hb : QSs X K body ts fs) (hp : PassesOwn (model X.prog X.w) X.A X.env X.xe := by exact PassesOwn.never) (k0 : X.K = K := by rfl) : QS X K (.While c body [] pos) (tWhile tt ts) (sWhile ft fs) := by
  cases k0
  exact ⟨ps_while hp hc.p hb.p, sj_while hc.j hb.j⟩
theorem q_putL (i : Nat) {x : Str} {p' tpos : Pos} (hv : QE X K e te fe) (hi : QE X K a ta fa) (hN : X.N[i]? = some x := by rfl) (hz : Vis X.env.scope x := by first | exact Or.inl rfl | exact Or.inr (Or.inl rfl) | exact Or.inr (Or.inr rfl))
    (h2 : ∀ v, assign (.Subscript (.Name x p') a tpos) X.env v = (do
      let ov ← holding [v] (eval (.Name x p') X.env)
      let iv ← holding [v, ov] (eval a X.env)
      standAt tpos
      holding [v, ov, iv] (setItem ov iv v)
      release [v, ov, iv] []) := by intro _; rfl) (hs : swapsWithSole [.Subscript (.Name x p') a tpos] e pos.line X.env = pure false := by rfl) (hw : swappedStores [.Subscript (.Name x p') a tpos] e X.env = pure none := by rfl) (h1 : (assignEach [.Subscript (.Name x p') a tpos] X.env).map (·.2) = [assign (.Subscript (.Name x p') a tpos) X.env] := by rfl) (hd : (x == ("__debug__" : Str)) = false := by decide)
    (hcd : (x == ("__classdict__" : Str)) = false := by decide) (k0 : X.K = K := by rfl) : QS X K (.Assign [.Subscript (.Name x p') a tpos] e pos) (tAsg te (L2.gSub (tVar i) ta rSetL)) (sPutL i fa fe) := by
  cases k0
  exact ⟨ps_asg hv.p (pg_sub (pe_var hN hz hd hcd) hi.p set_list h2) hs hw h1, sj_putL hi.j hv.j⟩
theorem q_augN (i : Nat) {x : Str} {p' : Pos} {op : Operator} {ti : TIp} {g : Int → Int → Option Int} (hN : X.N.Nodup) (hj : IPJ ti g) (ho : PIp X op ti) (h : QE X K e te fe) (hi : X.N[i]? = some x := by rfl) (hx : Loc X.env.scope x := by first | exact Or.inl rfl | exact Or.inr rfl) (hf : X.fn x = true ∨ X.env.scope.names.lookup x = some .local := by first | exact .inl rfl | exact .inr rfl) (k0 : X.K = K := by rfl) : QS X K (.AugAssign (.Name x p') op e pos) (tAug i te ti) (sAugN i g fe) := by
  cases k0
  exact ⟨ps_aug hN hi hx h.p ho hf, sj_augN hj h.j⟩
theorem q_augL (i : Nat) {x : Str} {p' tpos : Pos} {op : Operator} {ti : TIp} {g : Int → Int → Option Int} (hj : IPJ ti g) (ho : PIp X op ti) (hi : QE X K a ta fa) (h : QE X K e te fe) (hN : X.N[i]? = some x := by rfl) (hz : Vis X.env.scope x := by first | exact Or.inl rfl | exact Or.inr (Or.inl rfl) | exact Or.inr (Or.inr rfl))
    (ha : ∀ ov iv new, augStore a ov iv new = (do holding [new, ov, iv] (setItem ov iv new); release [new, ov, iv] []; pure .next) := by intros; rfl) (hd : (x == ("__debug__" : Str)) = false := by decide) (hcd : (x == ("__classdict__" : Str)) = false := by decide) (k0 : X.K = K := by rfl) :
    QS X K (.AugAssign (.Subscript (.Name x p') a tpos) op e pos) (tAugS (tVar i) ta te (rIxL K) ti rSetL) (sAugL i g fa fe) := by
  cases k0
  exact ⟨ps_augS (pe_var hN hz hd hcd) hi.p get_list h.p ho set_list ha, sj_augL hj hi.j h.j⟩
theorem q_fset (i : Nat) {x f : Str} {cs : List Str} {p' p2 : Pos} (hc : ∀ c ∈ cs, Cls K (He.ga K c) ∧ NoAttr K (He.ga K c) f) (h : QE X K e te fe) (hN : X.N[i]? = some x := by rfl) (hz : Vis X.env.scope x := by first | exact Or.inl rfl | exact Or.inr (Or.inl rfl) | exact Or.inr (Or.inr rfl)) (hs : swapsWith e (some (.Attribute (.Name x p') f p2)) pos.line X.env = pure false := by rfl) (hd : (x == ("__debug__" : Str)) = false := by decide) (hcd : (x == ("__classdict__" : Str)) = false := by decide) (k0 : X.K = K := by rfl) :
    QS X K (.Assign [.Attribute (.Name x p') f p2] e pos) (sFld K (tVar i) te f) (sFldP cs i f fe) := by
  cases k0
  exact ⟨ps_fld (pe_var hN hz hd hcd) h.p hs, sj_fld hc h.j⟩
/-- var i .m(..), a method that changes the list (the dict) there -/
theorem q_mut (i : Nat) {x name : Str} {T id : String} {p' apos cpos : Pos} {r : V → List V → Hp → VK → Prop} {g : D → List D → Option (D × D)} (pa : PlainAttrs T) (slot : Slot T name id) (hty : typeOf (.builtin id) = pure (.type "method_descriptor")) (hj : MJ K T r g) (hm : MtR X id r) (ha : QA X K (e :: es) ua ga') (hN : X.N[i]? = some x := by rfl) (hz : Vis X.env.scope x := by first | exact Or.inl rfl | exact Or.inr (Or.inl rfl) | exact Or.inr (Or.inr rfl))
    (hd : (x == ("__debug__" : Str)) = false := by decide) (hcd : (x == ("__classdict__" : Str)) = false := by decide) (hbase : attributeBase (.Name x p') name X.env (eval (.Name x p') X.env) = eval (.Name x p') X.env := by rfl)
    (hfew : ((backTo cpos (starEach (e :: es) X.env)).all (fun x => !x.1) && (backToKw cpos (keywordEach [] X.env)).all (fun x => x.1.isSome)
      && decide ((e :: es).length + ([] : List Keyword).length + (if ([] : List Keyword).isEmpty then 0 else 1) < 30)) = true := by rfl)
    (hline : (apos.endLine == cpos.line) = true := by rfl) (hs : starEach (e :: es) X.env = (false, eval e X.env) :: starEach es X.env := by rfl) (hplain : (backTo cpos (starEach es X.env)).any (·.1) = false := by rfl) (k0 : X.K = K := by rfl) :
    QE X K (.Call (.Attribute (.Name x p') name apos) (e :: es) [] cpos) (tBM K T r (tVar i) ua) (fMut T i g ga') := by
  cases k0
  exact ⟨pe_bm pa slot hty hm (pe_var hN hz hd hcd) ha.p hbase hfew hline hs hplain, ej_mut hj ha.j⟩
end
/-! ### defs by names -/
def FdAt (K : Fr) (f : Addr) (fd : FuncData) : Prop := ∃ oc od osl, K.lookup f = some ⟨oc, od, .func fd, osl⟩
theorem FdAt.inj {K : Fr} {f : Addr} {fd fd' : FuncData} (a : FdAt K f fd) (b : FdAt K f fd') : fd = fd' := by
  obtain ⟨_, _, _, h⟩ := a
  obtain ⟨_, _, _, h'⟩ := b
  rw [h] at h'
  cases h'; rfl
theorem FdAt.of {K : Fr} {x qual : Str} {params : Arguments} {body : List Stmt} {scope : Scope} {dvs : List V} {kws : List (Str × V)} {f : Addr} {fd : FuncData} (F : FunD K x qual params body scope dvs kws f fd) : FdAt K f fd := by
  obtain ⟨oc, od, dV, kV, doc, pm, an, cdv, ct, osl, rfl, lk, _⟩ := F.ex
  exact ⟨oc, od, osl, lk⟩
/-- a def of the module, or a method (p), that runs fs -/
structure Cal (P : Program) (w : World) (K : Fr) (mg : Str → Option Value) (base : Heap) (k : Nat) (p : Str × Option Str) (ps : List Str) (fs : FN) : Prop where
  ex : ∃ fd, FdAt K (He.fAd K p) fd ∧ FnOk P w K mg base CX0 k (He.fAd K p) fd ps (spF K fs) ∧ PySem.W.keepIn K (.ref (He.fAd K p)) = true ∧ Binds K fd ps []
structure CalG (P : Program) (w : World) (K : Fr) (mg : Str → Option Value) (base : Heap) (k : Nat) (p : Str × Option Str) (ps : List Str) (fs : FN) : Prop where
  ex : ∃ fd, FdAt K (He.fAd K p) fd ∧ FnG P w K mg base k (He.fAd K p) fd ps (spF K fs) ∧ PySem.W.keepIn K (.ref (He.fAd K p)) = true ∧ Binds K fd ps []
section
variable {P : Program} {w : World} {K : Fr} {mg : Str → Option Value} {base : Heap}
theorem Cal.mono {k j : Nat} {p : Str × Option Str} {ps : List Str} {fs : FN} (c : Cal P w K mg base k p ps fs) (h : k ≤ j) : Cal P w K mg base j p ps fs := by
  obtain ⟨fd, h1, h2, h3, h4⟩ := c.ex
  exact ⟨fd, h1, h2.mono h, h3, h4⟩
theorem Cal.mk' {p : Str × Option Str} {name qual : Str} {params : Arguments} {body : List Stmt} {scope : Scope} {N ps : List Str} {k : Nat} {f : FS} (F : ∃ fd, FunD K name qual params body scope [] [] (He.fAd K p) fd) (S : FnScope N ps scope)
    (hb : ∀ (kV doc pm : Value) (an : Option Addr) (cdv ct : Value) (us : List Value), us.length = ps.length → bindArgs (PySem.W.fnOf name qual params body scope .none kV doc pm an cdv ct) ⟨us, []⟩ = pure (ps.zip us))
    (h : ∀ (cdv : Value) (A : Around) (o : List Env) (s : Shared) (H : Hp) (E : XK), Room k (A.deeper (envOfC qual scope s.heap.objs.size (He.fAd K p) cdv)) → ∃ t, QSs (cxOf CX0 P w K mg base N qual scope (He.fAd K p) cdv A o s H E).nox K body t f) : Cal P w K mg base (k + 1) p ps (fnS ps.length N.length f) := by
  obtain ⟨fd, F⟩ := F
  refine ⟨fd, FdAt.of F, F.ok S (fun vs H Q E hs => spF_len hs) (fun cdv A o s H vs Q E hr hs => ?_), F.kp, F.bindsN hb⟩
  obtain ⟨t, q⟩ := h cdv A o s H E hr
  exact ⟨t, q.p.nox, body_ok (by rw [← S.pre]; exact List.length_take_le' _ _) q.j hs⟩
theorem CalG.mk' {p : Str × Option Str} {name qual : Str} {params : Arguments} {body : List Stmt} {scope : Scope} {N ps : List Str} {k : Nat} {f : FS} (F : ∃ fd, FunD K name qual params body scope [] [] (He.fAd K p) fd) (S : FnScope N ps scope)
    (hb : ∀ (kV doc pm : Value) (an : Option Addr) (cdv ct : Value) (us : List Value), us.length = ps.length → bindArgs (PySem.W.fnOf name qual params body scope .none kV doc pm an cdv ct) ⟨us, []⟩ = pure (ps.zip us))
    (h : ∀ (cdv : Value) (A : Around) (o : List Env) (s : Shared) (H : Hp) (E : XK), A.guards = some [] → Room k (A.deeper (envOfC qual scope s.heap.objs.size (He.fAd K p) cdv)) → ∃ t, QSs (cxOf CX0 P w K mg base N qual scope (He.fAd K p) cdv A o s H E).nox K body t f) : CalG P w K mg base (k + 1) p ps (fnS ps.length N.length f) := by
  obtain ⟨fd, F⟩ := F
  have hB := F.bindsN hb
  have hkp := F.kp
  have hfd := FdAt.of F
  obtain ⟨oc, od, dV, kV, doc, pm, an, cdv, ct, osl, rfl, lk, hcd, hD, hK⟩ := F.ex
  rcases hD with ⟨_, rfl⟩ | ⟨e, _⟩
  · refine ⟨_, hfd, FnG.mk' lk hcd S (fun vs H Q E hs => spF_len hs) (fun A o s H vs Q E gd hr hs => ?_), hkp, hB⟩
    obtain ⟨t, q⟩ := h cdv A o s H E gd hr
    exact ⟨t, q.p, body_ok (by rw [← S.pre]; exact List.length_take_le' _ _) q.j hs⟩
  · exact absurd rfl e
/-- no promise at all: the bottom of a recursion -/
theorem Cal.bot {k : Nat} {p : Str × Option Str} {name qual : Str} {params : Arguments} {body : List Stmt} {scope : Scope} {ps : List Str} (F : ∃ fd, FunD K name qual params body scope [] [] (He.fAd K p) fd)
    (hb : ∀ (kV doc pm : Value) (an : Option Addr) (cdv ct : Value) (us : List Value), us.length = ps.length → bindArgs (PySem.W.fnOf name qual params body scope .none kV doc pm an cdv ct) ⟨us, []⟩ = pure (ps.zip us)) : Cal P w K mg base k p ps (fun _ => none) := by
  obtain ⟨fd, F⟩ := F
  refine ⟨fd, FdAt.of F, ⟨fun vs H Q E hs => ?_, fun A o s H args us vs Q E hr he hbd hv hs => ?_⟩, F.kp, F.bindsN hb⟩
  · obtain ⟨_, _, _, _, _, _, h, _⟩ := hs; cases h
  · obtain ⟨_, _, _, _, _, _, h, _⟩ := hs; cases h
end
section
variable {X : Cx} {K : Fr} {e o : Expr} {es : List Expr} {te to : TE} {fe fo : FE} {ua : TA} {ga' : FA} {pos p : Pos} {k j : Nat} {x : Str} {ps : List Str} {fs : FN}
theorem q_call (c : Cal X.prog X.w K X.mg X.base k (x, none) ps fs) (hr : Room j X.A) (hm : X.mg x = some (.ref (He.ga K x))) (ha : QA X K (e :: es) ua ga') (hk : k ≤ j := by omega) (hg : Gl X x := by rfl) (hdb : (x == ("__debug__" : Str)) = false := by decide)
    (he : starEach (e :: es) X.env = (false, eval e X.env) :: starEach es X.env := by rfl) (hpl : (backTo pos (starEach es X.env)).any (·.1) = false := by rfl) (k0 : X.K = K := by rfl) : QE X K (.Call (.Name x p) (e :: es) [] pos) (tCall (spF K fs) [] E0 ua) (fCallF fs ga') := by
  cases k0
  obtain ⟨fd, _, F, kp, b⟩ := c.ex
  exact ⟨pe_call F (hr.mono hk) hg hm kp b .nil pass0 ha.p hdb he hpl, ej_call ha.j⟩
theorem q_callG (c : CalG X.prog X.w K X.mg X.base k (x, none) ps fs) (gd : X.A.guards = some []) (hr : Room j X.A) (hm : X.mg x = some (.ref (He.ga K x))) (ha : QA X K (e :: es) ua ga') (hk : k ≤ j := by omega) (hg : Gl X x := by rfl) (hdb : (x == ("__debug__" : Str)) = false := by decide)
    (he : starEach (e :: es) X.env = (false, eval e X.env) :: starEach es X.env := by rfl) (hpl : (backTo pos (starEach es X.env)).any (·.1) = false := by rfl) (k0 : X.K = K := by rfl) : QE X K (.Call (.Name x p) (e :: es) [] pos) (tCall (spF K fs) [] E0 ua) (fCallF fs ga') := by
  cases k0
  obtain ⟨fd, _, F, kp, b⟩ := c.ex
  exact ⟨pe_callG F gd (hr.mono hk) hg hm kp b ha.p hdb he hpl, ej_call ha.j⟩
theorem q_make {C : Str} (M : Mk K (He.ga K C) (He.ma K (He.ga K C) "__init__")) (c : Cal X.prog X.w K X.mg X.base k (C, some "__init__") ps fs) (hr : Room j X.A) (hm : X.mg C = some (.ref (He.ga K C))) (ha : QA X K (e :: es) ua ga') (hk : k + 1 ≤ j := by omega) (hg : Gl X C := by rfl) (hdb : (C == ("__debug__" : Str)) = false := by decide)
    (he : starEach (e :: es) X.env = (false, eval e X.env) :: starEach es X.env := by rfl) (hpl : (backTo pos (starEach es X.env)).any (·.1) = false := by rfl) (k0 : X.K = K := by rfl) : QE X K (.Call (.Name C p) (e :: es) [] pos) (tMake (He.ga K C) (spF K fs) [] E0 ua) (fMake C fs ga') := by
  cases k0
  obtain ⟨fd, _, F, kp, b⟩ := c.ex
  exact ⟨pe_make M F (hr.mono hk) hg hm b .nil pass0 ha.p hdb he hpl, ej_make ha.j⟩
theorem q_meth {C m : Str} {apos : Pos} {pl : Sem Bool} (cl : Cls K (He.ga K C)) (mt : Meth K (He.ga K C) m (He.ma K (He.ga K C) m)) (c : Cal X.prog X.w K X.mg X.base k (C, some m) ps fs) (hr : Room j X.A) (ho : QE X K o to fo) (ha : QA X K (e :: es) ua ga') (hk : k ≤ j := by omega)
    (hst : starEach (e :: es) X.env = (false, eval e X.env) :: starEach es X.env := by rfl) (hpl : (backTo pos (starEach es X.env)).any (·.1) = false := by rfl)
    (ht : eval (.Call (.Attribute o m apos) (e :: es) [] pos) X.env = (do
      let ov ← eval o X.env
      standAt apos.atName
      let (f, first) ← holding [ov] (getMethod ov m pl)
      callWith pos f first (backTo pos (starEach (e :: es) X.env)) (backToKw pos (keywordEach [] X.env))) := by rfl) (k0 : X.K = K := by rfl) : QE X K (.Call (.Attribute o m apos) (e :: es) [] pos) (tMeth (He.ga K C) m (spF K fs) [] E0 to ua) (fMeth C m fs fo ga') := by
  cases k0
  obtain ⟨fd, _, F, kp, b⟩ := c.ex
  exact ⟨pe_meth ho.p cl mt F (hr.mono hk) b .nil pass0 ha.p hst hpl ht, ej_meth ho.j ha.j⟩
theorem q_meth0 {C m : Str} {apos : Pos} {pl : Sem Bool} (cl : Cls K (He.ga K C)) (mt : Meth K (He.ga K C) m (He.ma K (He.ga K C) m)) (c : Cal X.prog X.w K X.mg X.base k (C, some m) ps fs) (hr : Room j X.A) (ho : QE X K o to fo) (hk : k ≤ j := by omega)
    (ht : eval (.Call (.Attribute o m apos) [] [] pos) X.env = (do
      let ov ← eval o X.env
      standAt apos.atName
      let (f, first) ← holding [ov] (getMethod ov m pl)
      callWith pos f first (backTo pos (starEach [] X.env)) (backToKw pos (keywordEach [] X.env))) := by rfl) (k0 : X.K = K := by rfl) : QE X K (.Call (.Attribute o m apos) [] [] pos) (tMeth (He.ga K C) m (spF K fs) [] E0 to tNil) (fMeth C m fs fo aNil) := by
  cases k0
  obtain ⟨fd, _, F, kp, b⟩ := c.ex
  exact ⟨pe_meth0 ho.p cl mt F (hr.mono hk) b .nil pass0 ht, ej_meth ho.j aj_nil⟩
/-- keywords alone -/
def KBx (K : Fr) (p : Str × Option Str) (ps ks : List Str) (n : Nat) (ix : List Nat) : Prop := ∃ fd, FdAt K (He.fAd K p) fd ∧ KB K fd ps ks n ix
theorem KBx.of {K : Fr} {p : Str × Option Str} {name qual : Str} {params : Arguments} {body : List Stmt} {scope : Scope} {ps ks : List Str} {n : Nat} {ix : List Nat} (F : ∃ fd, FunD K name qual params body scope [] [] (He.fAd K p) fd)
    (hb : ∀ (kV doc pm : Value) (an : Option Addr) (cdv ct : Value) (xs us : List Value), xs.length = n → us.length = ks.length → bindArgs (PySem.W.fnOf name qual params body scope .none kV doc pm an cdv ct) ⟨xs, ks.zip us⟩ = pure (ps.zip (xs ++ permL ix us))) : KBx K p ps ks n ix := by
  obtain ⟨fd, F⟩ := F
  have hfd := FdAt.of F
  obtain ⟨oc, od, dV, kV, doc, pm, an, cdv, ct, osl, rfl, lk, hcd, hD, hK⟩ := F.ex
  rcases hD with ⟨_, rfl⟩ | ⟨e, _⟩
  · exact ⟨_, hfd, ⟨fun s xs us h1 h2 => .of_eq (hb kV doc pm an cdv ct xs us h1 h2)⟩⟩
  · exact absurd rfl e
theorem q_callQ {ks : List Str} {ix : List Nat} {kws : List Keyword} (c : Cal X.prog X.w K X.mg X.base k (x, none) ps fs) (kb : KBx K (x, none) ps ks 0 ix) (hr : Room j X.A) (hm : X.mg x = some (.ref (He.ga K x))) (ha : QK X K kws ua ga') (hk : k ≤ j := by omega) (hg : Gl X x := by rfl)
    (hall : (backToKw pos (keywordEach kws X.env)).all (·.1.isSome) = true := by rfl) (hks : (backToKw pos (keywordEach kws X.env)).filterMap (·.1) = ks := by rfl) (hdb : (x == ("__debug__" : Str)) = false := by decide)
    (hpl : ((backTo pos (starEach [] X.env)).any (·.1) || (backToKw pos (keywordEach kws X.env)).any (·.1.isNone)) = false := by rfl) (k0 : X.K = K := by rfl) : QE X K (.Call (.Name x p) [] kws pos) (tCallQ (spF K fs) ks.length ix E0 ua) (fCallQ fs ks.length ix ga') := by
  cases k0
  obtain ⟨fd, h1, F, kp, b⟩ := c.ex
  obtain ⟨fd', h2, kb⟩ := kb
  cases FdAt.inj h1 h2
  exact ⟨pe_callQ F (hr.mono hk) hg hm kp kb ha.p hall hks hdb hpl, ej_callQ ha.j⟩
theorem q_methQ {C m : Str} {apos : Pos} {pl : Sem Bool} {ks : List Str} {ix : List Nat} {kws : List Keyword} (cl : Cls K (He.ga K C)) (mt : Meth K (He.ga K C) m (He.ma K (He.ga K C) m)) (c : Cal X.prog X.w K X.mg X.base k (C, some m) ps fs) (kb : KBx K (C, some m) ps ks 1 ix) (hr : Room j X.A) (ho : QE X K o to fo) (ha : QK X K kws ua ga') (hk : k ≤ j := by omega)
    (hall : (backToKw pos (keywordEach kws X.env)).all (·.1.isSome) = true := by rfl) (hks : (backToKw pos (keywordEach kws X.env)).filterMap (·.1) = ks := by rfl)
    (hpl : ((backTo pos (starEach [] X.env)).any (·.1) || (backToKw pos (keywordEach kws X.env)).any (·.1.isNone)) = false := by rfl)
    (ht : eval (.Call (.Attribute o m apos) [] kws pos) X.env = (do
      let ov ← eval o X.env
      standAt apos.atName
      let (f, first) ← holding [ov] (getMethod ov m pl)
      callWith pos f first (backTo pos (starEach [] X.env)) (backToKw pos (keywordEach kws X.env))) := by rfl) (k0 : X.K = K := by rfl) : QE X K (.Call (.Attribute o m apos) [] kws pos) (tMethQ (He.ga K C) m (spF K fs) ks.length ix E0 to ua) (fMethQ C m fs ks.length ix fo ga') := by
  cases k0
  obtain ⟨fd, h1, F, kp, b⟩ := c.ex
  obtain ⟨fd', h2, kb⟩ := kb
  cases FdAt.inj h1 h2
  exact ⟨pe_methQ ho.p cl mt F (hr.mono hk) kb ha.p hall hks hpl ht, ej_methQ ho.j ha.j⟩
theorem q_eqI {C : Str} {b : Expr} {tb : TE} {fb : FE} (mt : Meth K (He.ga K C) "__eq__" (He.ma K (He.ga K C) "__eq__")) (hs : PySem.W.findIn K (.ref (He.ga K C)) "__eq__" = some (some (.ref (He.ma K (He.ga K C) "__eq__")))) (c : Cal X.prog X.w K X.mg X.base k (C, some "__eq__") ps fs) (hr : Room j X.A) (ha : QE X K e te fe) (hb : QE X K b tb fb) (hk : k ≤ j := by omega) (k0 : X.K = K := by rfl) :
    QE X K (.Compare e [.Eq] [b] pos) (tOp (rEqI (He.ga K C) (spF K fs) E0) te tb) (fEqI C fs fe fb) := by
  cases k0
  obtain ⟨fd, h1, F, kp, bd⟩ := c.ex
  exact ⟨pe_cmpR (op_eqI F (hr.mono hk) hs mt.fn bd) ha.p hb.p (nomark _), ej_eqI ha.j hb.j⟩
theorem q_isC {C : Str} {p2 p3 : Pos} (i : C8.InsC K (He.ga K C)) (hm : X.mg "isinstance" = none) (hmC : X.mg C = some (.ref (He.ga K C))) (ha : QE X K e te fe) (hg : Gl X "isinstance" := by rfl) (hgC : Gl X C := by rfl) (hdC : (C == ("__debug__" : Str)) = false := by decide)
    (he : starEach [e, .Name C p3] X.env = (false, eval e X.env) :: starEach [.Name C p3] X.env := by rfl) (he2 : starEach [.Name C p3] X.env = (false, eval (.Name C p3) X.env) :: starEach [] X.env := by rfl) (hpl : (backTo pos (starEach [.Name C p3] X.env)).any (·.1) = false := by rfl) (k0 : X.K = K := by rfl) :
    QE X K (.Call (.Name "isinstance" p2) [e, .Name C p3] [] pos) (tCB (rIsC (He.ga K C)) (tCons te (tCons (tC (.ref (He.ga K C))) tNil))) (fIsC C fe) := by
  cases k0
  exact ⟨pe_callB (call_isCr i) hg hm (by rfl) (pa_cons ha.p (pa_cons (pe_glob hgC hmC rel_ref hdC) pa_nil he2) he) (by decide) (by decide) he hpl, ej_isC ha.j⟩
end
/-! ### a hook that also says what isinstance asks -/
def insB (K : Fr) (C : Str) : Bool := He.eqO (PySem.W.findIn K (.ref (He.ga K C)) "__class__") (some (some (.builtin "object.__class__"))) && (He.eqO (PySem.W.specialIn K (.builtin "object.__class__") "__get__") (some (some (.builtin "getset_descriptor.__get__"))) &&
  (decide (PySem.W.takesIn K (.builtin "object.__class__") = some true) && (decide (PySem.W.mroIn K (He.ga K C) (.type "object") = some true) && decide (PySem.W.kitOne K (.ref (He.ga K C)) (.ref (He.ga K C)) = some true))))
theorem insB_ok {K : Fr} {C : Str} (h : insB K C = true) (c : Cls K (He.ga K C)) : C8.InsC K (He.ga K C) := by
  obtain ⟨h1, h⟩ := He.ba h
  obtain ⟨h2, h⟩ := He.ba h
  obtain ⟨h3, h⟩ := He.ba h
  obtain ⟨h4, h5⟩ := He.ba h
  exact ⟨c, He.eqO_ok h1, He.eqO_ok h2, of_decide_eq_true h3, of_decide_eq_true h4, of_decide_eq_true h5⟩
abbrev AlX : Type := Bool × He.AlD
def obsX (cs : List Str) (fa : List He.Fa) (fn : List He.DefD) (K : Fr) : AlX := (cs.all fun c => insB K c, He.obsD fa fn K)
def SaysX (cs : List Str) (fa : List He.Fa) (fn : List He.DefD) (K : Fr) : Prop := (cs.all fun c => insB K c) = true ∧ He.SaysD fa fn K
def obsXG (n : Nat) (cs : List Str) (fa : List He.Fa) (fn : List He.DefD) (g : Addr → Option Obj) : AlX := obsX cs fa fn (He.frG g (He.asD g n))
def hookX (n : Nat) (cs : List Str) (fa : List He.Fa) (fn : List He.DefD) : PySem.W.Hook where
  α := AlX
  obs := fun s => obsXG n cs fa fn s.heap.get?
  val := fun _ => (true, He.valD fn)
  says := fun _ h => ∃ K : Fr, K.In h ∧ SaysX cs fa fn K
  of := fun _ _ e => ⟨_, He.frG_in, congrArg (fun z : AlX => z.1) e, congrArg (fun z : AlX => z.2) e⟩
  keeps := fun _ _ _ ⟨K, hK, c⟩ k => ⟨K, PySem.W.Frag.In.keeps hK k, c⟩
theorem obsXG_eq {n : Nat} {cs : List Str} {fa : List He.Fa} {fn : List He.DefD} {g : Addr → Option Obj} {s : Shared} (h : ∀ a, g a = s.heap.get? a) : obsXG n cs fa fn g = (hookX n cs fa fn).obs s := by
  have e : g = s.heap.get? := funext h
  rw [e] <;> rfl
theorem SaysX.ins {cs : List Str} {fa : List He.Fa} {fn : List He.DefD} {K : Fr} (c : SaysX cs fa fn K) (i : Nat) {x : Str} (cl : Cls K (He.ga K x)) (h : cs[i]? = some x := by rfl) : C8.InsC K (He.ga K x) :=
  insB_ok (List.all_eq_true.mp c.1 x (List.mem_of_getElem? h)) cl
end DV

set_option Elab.async false
set_option linter.all false
set_option maxRecDepth 100000
set_option maxHeartbeats 1000000
namespace DV
open PySem PySem.Spec PyProof.Rows L2
def gEqS : D → D → Option Op
  | .str a, .str b => some (.val (.bl (decide (a = b))))
  | _, _ => none
def gNeS : D → D → Option Op
  | .str a, .str b => some (.val (.bl (!decide (a = b))))
  | _, _ => none
theorem oj_eqS {K : Fr} : OJ2 K rEq gEqS := fun dx dy o h U H x y dm rx ry Q q => by
  unfold gEqS at h
  split at h
  · rename_i a b
    cases h
    rw [rx.str, ry.str]
    have e : decide (V.str a = V.str b) = decide (a = b) := by simp
    exact ⟨rfl, by rw [e]; exact OJ2.res dm (.bl _) q⟩
  · cases h
theorem oj_neS {K : Fr} : OJ2 K rNe gNeS := fun dx dy o h U H x y dm rx ry Q q => by
  unfold gNeS at h
  split at h
  · rename_i a b
    cases h
    rw [rx.str, ry.str]
    have e : decide (V.str a = V.str b) = decide (a = b) := by simp
    exact ⟨rfl, by rw [e]; exact OJ2.res dm (.bl _) q⟩
  · cases h
end DV

set_option Elab.async false
set_option linter.all false
set_option maxRecDepth 100000
set_option maxHeartbeats 1000000
namespace DV
open PySem PySem.Spec PyProof.Rows L2
/-! ### reckoning with the functions -/
@[simp] theorem L_d_fz {d : D} : (L.fz d).d = d := rfl
@[simp] theorem L_d_ow {x : Option Nat} {d : D} : (L.ow x d).d = d := rfl
@[simp] theorem gAdd_i {i j : Int} : gAdd (.int i) (.int j) = some (.val (.int (i + j))) := rfl
@[simp] theorem gAdd_l {a b : List D} : gAdd (.lst a) (.lst b) = if a.length + b.length ≤ sizeLine then some (.own (.lst (a ++ b))) else none := rfl
@[simp] theorem gSub_i {i j : Int} : DV.gSub (.int i) (.int j) = some (.val (.int (i - j))) := rfl
@[simp] theorem gMul_i {i j : Int} : gMul (.int i) (.int j) = if MulOk i j then some (.val (.int (i * j))) else none := rfl
@[simp] theorem gMul_l {a : List D} {k : Int} : gMul (.lst a) (.int k) = if -(2 ^ 63) ≤ k ∧ k < 2 ^ 63 ∧ a.length * k.toNat ≤ sizeLine then some (.own (.lst (List.replicate k.toNat a).flatten)) else none := rfl
@[simp] theorem gFdiv_i {i j : Int} : gFdiv (.int i) (.int j) = if j ≠ 0 ∧ j.natAbs.log2 < 9000 then some (.val (.int (i.fdiv j))) else none := rfl
@[simp] theorem gMod_i {i j : Int} : gMod (.int i) (.int j) = if j ≠ 0 then some (.val (.int (i.fmod j))) else none := rfl
@[simp] theorem gPow_i {i j : Int} : gPow (.int i) (.int j) = if PowOk i j then some (.val (.int (i ^ j.toNat))) else none := rfl
@[simp] theorem gCmp_i {p : Int → Int → Bool} {i j : Int} : gCmp p (.int i) (.int j) = some (.val (.bl (p i j))) := rfl
@[simp] theorem gNeg_i {i : Int} : gNeg (.int i) = some (.val (.int (-i))) := rfl
@[simp] theorem gIx_l {l : List D} {i : Int} : gIx (.lst l) (.int i) = (atI l i).map .val := rfl
@[simp] theorem gIx_t {l : List D} {i : Int} : gIx (.tup l) (.int i) = (atI l i).map .val := rfl
@[simp] theorem gIx_s {l : List Int} {i : Int} : gIx (.scr l) (.int i) = (atI l i).map fun j => .val (.int j) := rfl
@[simp] theorem gLen_l {l : List D} : gLen [.lst l] = some (.val (.int l.length)) := rfl
@[simp] theorem gLen_t {l : List D} : gLen [.tup l] = some (.val (.int l.length)) := rfl
@[simp] theorem gLen_s {l : List Int} : gLen [.scr l] = some (.val (.int l.length)) := rfl
@[simp] theorem gAbs_i {i : Int} : gAbs [.int i] = some (.val (.int (if i < 0 then -i else i))) := rfl
@[simp] theorem gMax2_i {i j : Int} : gMax2 [.int i, .int j] = some (.val (.int (if j > i then j else i))) := rfl
@[simp] theorem gMin2_i {i j : Int} : gMin2 [.int i, .int j] = some (.val (.int (if j < i then j else i))) := rfl
@[simp] theorem gInt1_i {i : Int} : gInt1 [.int i] = some (.val (.int i)) := rfl
@[simp] theorem gList_l {l : List D} : gList [.lst l] = some (.own (.lst l)) := rfl
@[simp] theorem gList_t {l : List D} : gList [.tup l] = some (.own (.lst l)) := rfl
@[simp] theorem gTuple_l {l : List D} : gTuple [.lst l] = some (.val (.tup l)) := rfl
@[simp] theorem gTuple_t {l : List D} : gTuple [.tup l] = some (.val (.tup l)) := rfl
@[simp] theorem gSum_l {l : List D} : gSum [.lst l] = (intsD l).map fun ns => .val (.int ns.sum) := rfl
@[simp] theorem gAll_l {l : List D} : gAll [.lst l] = (blsD l).map fun ns => .val (.bl (ns.all id)) := rfl
@[simp] theorem gAppend_l {l : List D} {y : D} : gAppend (.lst l) [y] = if l.length < sizeLine then some (.lst (l ++ [y]), .non) else none := rfl
@[simp] theorem setD_l {l : List D} {k : Int} {y : D} : setD (.lst l) k y = (ixN l.length k).map fun j => .lst (l.set j y) := rfl
@[simp] theorem listAt_l {l : List D} {k : Int} : listAt (.lst l) k = L2.atI l k := rfl
@[simp] theorem slD_l {l : List D} {lo hi : Option Int} : slD (.lst l) lo hi = some (.own (.lst (cutD l lo hi))) := rfl
@[simp] theorem isTy_l {l : List D} {T : String} : isTy T (.lst l) = (T == "list") := rfl
@[simp] theorem gN_v {i : Nat} {d : D} {ρ : Rho} : gN i (.val d) ρ = some (ρ.set i (some (.fz d))) := rfl
@[simp] theorem gN_o {i : Nat} {d : D} {ρ : Rho} : gN i (.own d) ρ = some (ρ.set i (some (.ow none d))) := rfl
@[simp] theorem resOp_f {d : D} : resOp (.fz d) = .val d := rfl
@[simp] theorem resOp_o {x : Option Nat} {d : D} : resOp (.ow x d) = .own d := rfl
@[simp] theorem retL_v {ρ : Rho} {d : D} : retL ρ (.val d) = some (.fz d) := rfl
@[simp] theorem retL_o {ρ : Rho} {d : D} : retL ρ (.own d) = some (.ow none d) := rfl
@[simp] theorem Op_get_v {ρ : Rho} {d : D} : Op.get ρ (.val d) = some d := rfl
@[simp] theorem Op_get_o {ρ : Rho} {d : D} : Op.get ρ (.own d) = some d := rfl
theorem Op_get_s {ρ : Rho} {i : Nat} {l : L} (h : ρ[i]? = some (some l)) : Op.get ρ (.slot i) = some l.d := by
  show (match ρ[i]? with | some (some l) => some l.d | _ => none) = _
  rw [h]
theorem pow_ok {i : Int} (h : i.natAbs < 2 ^ 200) : PowOk i 3 := by
  refine ⟨by decide, ?_⟩
  have hb : Builtin.Int.intBits i ≤ i.natAbs.log2 + 1 := by
    unfold Builtin.Int.intBits
    split <;> omega
  have h2 : i.natAbs.log2 < 200 := PySem.Flt.log2_lt_of (by decide) h
  have h3 : (Builtin.Int.intBits i : Int) ≤ 200 := by omega
  omega
theorem mulOk_small {i j : Int} (h : -(2 ^ 64) < i ∧ i < 2 ^ 64) : MulOk i j := .inl (.inl h)
theorem mulOk_small2 {i j : Int} (h : -(2 ^ 64) < j ∧ j < 2 ^ 64) : MulOk i j := .inl (.inr h)
theorem forL_run {g : FV} {body : FS} (P : List D → Rho → Prop) (step : ∀ d r ρ, P (d :: r) ρ → ∃ ρ1 ρ2, g d ρ = some ρ1 ∧ (body ρ1 = some (.nx ρ2) ∨ body ρ1 = some (.cnt ρ2)) ∧ P r ρ2) : ∀ ds ρ, P ds ρ → ∃ ρ', forL g body ds ρ = some (.nx ρ') ∧ P [] ρ'
  | [], ρ, h => ⟨ρ, rfl, h⟩
  | d :: r, ρ, h => by
    obtain ⟨ρ1, ρ2, h1, h2, h3⟩ := step d r ρ h
    obtain ⟨ρ', h4, h5⟩ := forL_run P step r ρ2 h3
    refine ⟨ρ', ?_, h5⟩
    unfold forL
    rw [h1]
    show (match body ρ1 with | some (.nx ρ2) => forL g body r ρ2 | some (.cnt ρ2) => forL g body r ρ2 | some (.brk ρ2) => some (.nx ρ2) | some (.ret l ρ2) => some (.ret l ρ2) | none => none) = _
    rcases h2 with h2 | h2 <;> rw [h2] <;> exact h4
theorem lcL_run {vs : List Nat} {g : FV} {ft : FT} {fe : FE} (P : List D → List D → Rho → Prop) (step : ∀ d r acc ρ, P (d :: r) acc ρ → ∃ ρ1 b ρ2, g d ρ = some ρ1 ∧ ft ρ1 = some (b, ρ2) ∧ (b = true → ∃ y ρ3, fF fe ρ2 = some (y, ρ3) ∧ acc.length < sizeLine ∧ P r (acc ++ [y]) (wipeR ρ3 vs)) ∧ (b = false → P r acc (wipeR ρ2 vs))) :
    ∀ ds acc ρ, P ds acc ρ → ∃ l ρ', lcL vs g ft fe ds acc ρ = some (l, ρ') ∧ P [] l ρ'
  | [], acc, ρ, h => ⟨acc, ρ, rfl, h⟩
  | d :: r, acc, ρ, h => by
    obtain ⟨ρ1, b, ρ2, h1, h2, h3, h4⟩ := step d r acc ρ h
    unfold lcL
    rw [h1]
    simp only [Option.bind_some]
    rw [h2]
    simp only [Option.bind_some]
    cases b with
    | true =>
      obtain ⟨y, ρ3, h5, h6, h7⟩ := h3 rfl
      rw [if_pos rfl, h5]
      simp only [Option.bind_some]
      rw [if_pos h6]
      exact lcL_run P step r _ _ h7
    | false =>
      rw [if_neg (by simp)]
      exact lcL_run P step r _ _ (h4 rfl)
/-- a comprehension that leaves the frame as it is -/
theorem lcL_map {vs : List Nat} {g : FV} {ft : FT} {fe : FE} {ρ : Rho} (h : D → D) : ∀ {ds acc : List D}, (∀ d ∈ ds, ∃ ρ1 ρ2 ρ3, g d ρ = some ρ1 ∧ ft ρ1 = some (true, ρ2) ∧ fF fe ρ2 = some (h d, ρ3) ∧ wipeR ρ3 vs = ρ) → acc.length + ds.length ≤ sizeLine → lcL vs g ft fe ds acc ρ = some (acc ++ ds.map h, ρ)
  | [], acc, _, _ => by simp [lcL]
  | d :: r, acc, hs, hl => by
    obtain ⟨ρ1, ρ2, ρ3, h1, h2, h3, h4⟩ := hs d (List.mem_cons_self ..)
    unfold lcL
    rw [h1]
    simp only [Option.bind_some]
    rw [h2]
    simp only [Option.bind_some, if_true]
    rw [h3]
    simp only [Option.bind_some]
    rw [if_pos (by simp at hl; omega), h4, lcL_map h (fun d hd => hs d (List.mem_cons_of_mem _ hd)) (by simp at hl ⊢; omega)]
    simp
def intsL (l : List Int) : D := .lst (l.map .int)
theorem intsD_map : ∀ l : List Int, intsD (l.map D.int) = some l
  | [] => rfl
  | a :: l => by simp [intsD, intsD_map l]
theorem rangeD_len {lo c : Int} {n : Nat} : (rangeD lo c n).length = n := by simp [rangeD]
/-! data of ints, texts, lists, tuples -/
def Good (k : Nat) (d : D) : Prop := ∃ p, toPy d = some p ∧ p.canLay0 = true ∧ p.depth ≤ k ∧ PyData.eqv p p = true
def GoodA (k : Nat) (l : List D) : Prop := ∃ ps, toPys l = some ps ∧ PyData.canLayAll0 ps = true ∧ PyData.depthAll ps ≤ k ∧ PyData.eqvAll ps ps = true ∧ ps.length = l.length
theorem Good.int {k : Nat} {i : Int} : Good k (.int i) := ⟨.int i, rfl, rfl, Nat.zero_le _, by simp [PyData.eqv]⟩
theorem Good.bl {k : Nat} {i : Bool} : Good k (.bl i) := ⟨.bool i, rfl, rfl, Nat.zero_le _, by simp [PyData.eqv]⟩
theorem Good.non {k : Nat} : Good k .non := ⟨.none, rfl, rfl, Nat.zero_le _, by simp [PyData.eqv]⟩
theorem GoodA.of {k : Nat} : ∀ {l : List D}, (∀ d ∈ l, Good k d) → GoodA k l
  | [], _ => ⟨[], rfl, rfl, Nat.zero_le _, by simp [PyData.eqvAll], rfl⟩
  | d :: l, h => by
    obtain ⟨p, h1, h2, h3, h4⟩ := h d (List.mem_cons_self ..)
    obtain ⟨ps, g1, g2, g3, g4, g5⟩ := GoodA.of (fun d hd => h d (List.mem_cons_of_mem _ hd)) (l := l)
    refine ⟨p :: ps, ?_, ?_, ?_, ?_, ?_⟩
    · show (toPy d).bind (fun p => (toPys l).map fun ps => p :: ps) = _
      rw [h1, g1]; rfl
    · show (p.canLay0 && PyData.canLayAll0 ps) = true
      rw [h2, g2]; rfl
    · show max p.depth (PyData.depthAll ps) ≤ k
      omega
    · show (PyData.eqv p p && PyData.eqvAll ps ps) = true
      rw [h4, g4]; rfl
    · simp [g5]
theorem Good.lst {k : Nat} {l : List D} (h : ∀ d ∈ l, Good k d) : Good (k + 1) (.lst l) := by
  obtain ⟨ps, g1, g2, g3, g4, g5⟩ := GoodA.of h
  refine ⟨.list ps, ?_, g2, ?_, by simpa [PyData.eqv] using g4⟩
  · show (toPys l).map PyData.list = _
    rw [g1]; rfl
  · show PyData.depthAll ps + 1 ≤ k + 1
    omega
theorem Good.tup {k : Nat} {l : List D} (h : ∀ d ∈ l, Good k d) : Good (k + 1) (.tup l) := by
  obtain ⟨ps, g1, g2, g3, g4, g5⟩ := GoodA.of h
  refine ⟨.tuple ps, ?_, g2, ?_, by simpa [PyData.eqv] using g4⟩
  · show (toPys l).map PyData.tuple = _
    rw [g1]; rfl
  · show PyData.depthAll ps + 1 ≤ k + 1
    omega
theorem Good.mono {k j : Nat} {d : D} (h : Good k d) (e : k ≤ j) : Good j d := by
  obtain ⟨p, h1, h2, h3, h4⟩ := h
  exact ⟨p, h1, h2, by omega, h4⟩
theorem Good.intsL {k : Nat} {l : List Int} : Good (k + 1) (intsL l) := .lst fun d hd => by
  obtain ⟨i, _, rfl⟩ := List.mem_map.mp hd
  exact .int
theorem Good.refl {k : Nat} {d : D} (h : Good k d) (hk : k ≤ 64) : eqPy d d = some true := by
  obtain ⟨p, h1, h2, h3, h4⟩ := h
  have hs : SeqAt.shaped p = true := by
    unfold SeqAt.shaped
    rw [h2, decide_eq_true (by omega : p.depth ≤ 64)]; rfl
  unfold eqPy
  rw [h1]
  simp [hs, h4]
theorem Good.nil {k : Nat} {l : List D} (h : Good k (.lst l)) (hk : k ≤ 64) : eqPy (.lst l) (.lst []) = some l.isEmpty := by
  obtain ⟨p, h1, h2, h3, h4⟩ := h
  have hs : SeqAt.shaped p = true := by
    unfold SeqAt.shaped
    rw [h2, decide_eq_true (by omega : p.depth ≤ 64)]; rfl
  obtain ⟨ps, g1, rfl⟩ := map_some (show (toPys l).map .list = some p from h1)
  unfold eqPy
  rw [h1]
  have hn : SeqAt.shaped (PyData.list []) = true := by decide
  have e : PyData.eqv (.list ps) (.list []) = l.isEmpty := by
    cases l with
    | nil =>
      have : ps = [] := by simpa [toPys] using g1.symm
      subst this; simp [PyData.eqv, PyData.eqvAll]
    | cons d l =>
      obtain ⟨q, _, g1⟩ := bind_some (show (toPy d).bind (fun p => (toPys l).map fun ps => p :: ps) = some ps from g1)
      obtain ⟨qs, _, rfl⟩ := map_some g1
      simp [PyData.eqv, PyData.eqvAll]
  have e0 : toPy (.lst []) = some (.list []) := rfl
  rw [e0]
  simp [hs, hn, e]
theorem eqPy_int {i j : Int} : eqPy (.int i) (.int j) = some (decide (i = j)) := by
  have h (i : Int) : SeqAt.shaped (PyData.int i) = true := by
    unfold SeqAt.shaped
    simp [PyData.canLay0, PyData.depth]
  unfold eqPy
  simp [toPy, h, PyData.eqv]
  rfl
@[simp] theorem gEq_i {i j : Int} : gEq (.int i) (.int j) = some (.val (.bl (decide (i = j)))) := by unfold gEq; rw [eqPy_int]; rfl
@[simp] theorem gNe_i {i j : Int} : gNe (.int i) (.int j) = some (.val (.bl (!decide (i = j)))) := by unfold gNe; rw [eqPy_int]; rfl
/-! texts of data -/
def Shw (k m : Nat) (d : D) : Prop := ∃ p, toPy d = some p ∧ p.showable = true ∧ p.depth ≤ k ∧ p.leavesShort 2000 = true ∧ p.bulk ≤ m
theorem Shw.int {k m : Nat} {i : Int} (h : i.natAbs.log2 < 1920) : Shw k m (.int i) := by
  refine ⟨.int i, rfl, by simpa [PyData.showable] using h, Nat.zero_le _, ?_, Nat.zero_le _⟩
  have e := PyProof.Rows.int_text_len_1921 h
  simp only [PyData.leavesShort, decide_eq_true_eq]
  exact Nat.le_trans e (by decide)
theorem Shw.bl {k m : Nat} {b : Bool} : Shw k m (.bl b) := ⟨.bool b, rfl, rfl, Nat.zero_le _, rfl, Nat.zero_le _⟩
theorem Shw.non {k m : Nat} : Shw k m .non := ⟨.none, rfl, rfl, Nat.zero_le _, rfl, Nat.zero_le _⟩
theorem Shw.all {k m : Nat} : ∀ {l : List D}, (∀ d ∈ l, Shw k m d) → ∃ ps, toPys l = some ps ∧ PyData.showableAll ps = true ∧ PyData.depthAll ps ≤ k ∧ PyData.leavesShortAll 2000 ps = true ∧ PyData.bulkAll ps ≤ l.length * (m + 1)
  | [], _ => ⟨[], rfl, rfl, Nat.zero_le _, rfl, Nat.zero_le _⟩
  | d :: l, h => by
    obtain ⟨p, h1, h2, h3, h4, h5⟩ := h d (List.mem_cons_self ..)
    obtain ⟨ps, g1, g2, g3, g4, g5⟩ := Shw.all (fun d hd => h d (List.mem_cons_of_mem _ hd)) (l := l)
    refine ⟨p :: ps, ?_, ?_, ?_, ?_, ?_⟩
    · show (toPy d).bind (fun p => (toPys l).map fun ps => p :: ps) = _
      rw [h1, g1]; rfl
    · show (p.showable && PyData.showableAll ps) = true
      rw [h2, g2]; rfl
    · show max p.depth (PyData.depthAll ps) ≤ k
      omega
    · show (p.leavesShort 2000 && PyData.leavesShortAll 2000 ps) = true
      rw [h4, g4]; rfl
    · show p.bulk + 1 + PyData.bulkAll ps ≤ (l.length + 1) * (m + 1)
      rw [Nat.succ_mul]
      omega
theorem Shw.lst {k m n : Nat} {l : List D} (h : ∀ d ∈ l, Shw k m d) (hn : l.length ≤ n) : Shw (k + 1) (n * (m + 1)) (.lst l) := by
  obtain ⟨ps, g1, g2, g3, g4, g5⟩ := Shw.all h
  refine ⟨.list ps, ?_, g2, ?_, g4, Nat.le_trans g5 (Nat.mul_le_mul_right _ hn)⟩
  · show (toPys l).map PyData.list = _
    rw [g1]; rfl
  · show PyData.depthAll ps + 1 ≤ k + 1
    omega
theorem Shw.tup {k m n : Nat} {l : List D} (h : ∀ d ∈ l, Shw k m d) (hn : l.length ≤ n) : Shw (k + 1) (n * (m + 1)) (.tup l) := by
  obtain ⟨ps, g1, g2, g3, g4, g5⟩ := Shw.all h
  refine ⟨.tuple ps, ?_, g2, ?_, g4, Nat.le_trans g5 (Nat.mul_le_mul_right _ hn)⟩
  · show (toPys l).map PyData.tuple = _
    rw [g1]; rfl
  · show PyData.depthAll ps + 1 ≤ k + 1
    omega
theorem Shw.mono {k m k' m' : Nat} {d : D} (h : Shw k m d) (hk : k ≤ k') (hm : m ≤ m') : Shw k' m' d := by
  obtain ⟨p, h1, h2, h3, h4, h5⟩ := h
  exact ⟨p, h1, h2, by omega, h4, by omega⟩
theorem Shw.repr {k m : Nat} {d : D} (h : Shw k m d) (hr : isRf d = true) (hk : k ≤ 100) (hm : m ≤ 8000) : ∃ s, gRepr [d] = some (.val (.str s)) := by
  obtain ⟨p, h1, h2, h3, h4, h5⟩ := h
  refine ⟨p.shown, ?_⟩
  have hl := PyData.shown_le_bulk 2000 (by decide) p h4
  have hl2 : p.shown.length ≤ sizeLine := by
    rw [sizeLine_eq]
    have := Nat.mul_le_mul_left (2000 + 2) (Nat.le_trans h5 hm)
    omega
  show (if isRf d = true then (showD d).map fun s => Op.val (.str s) else none) = _
  unfold showD
  rw [if_pos hr, h1]
  simp only [Option.bind_some]
  rw [if_pos ⟨h2, by omega, hl2⟩]
  rfl
/-- a comprehension over the images of a list -/
theorem lcL_mapF {α : Type} {vs : List Nat} {g : FV} {ft : FT} {fe : FE} {ρ : Rho} (f h : α → D) : ∀ {zs : List α} {acc : List D}, (∀ t ∈ zs, ∃ ρ1 ρ2 ρ3, g (f t) ρ = some ρ1 ∧ ft ρ1 = some (true, ρ2) ∧ fF fe ρ2 = some (h t, ρ3) ∧ wipeR ρ3 vs = ρ) → acc.length + zs.length ≤ sizeLine → lcL vs g ft fe (zs.map f) acc ρ = some (acc ++ zs.map h, ρ)
  | [], acc, _, _ => by simp [lcL]
  | d :: r, acc, hs, hl => by
    obtain ⟨ρ1, ρ2, ρ3, h1, h2, h3, h4⟩ := hs d (List.mem_cons_self ..)
    rw [List.map_cons]
    unfold lcL
    rw [h1]
    simp only [Option.bind_some]
    rw [h2]
    simp only [Option.bind_some, if_true]
    rw [h3]
    simp only [Option.bind_some]
    rw [if_pos (by simp at hl; omega), h4, lcL_mapF f h (fun d hd => hs d (List.mem_cons_of_mem _ hd)) (by simp at hl ⊢; omega)]
    simp
/-- .. with a test -/
theorem lcL_filF {α : Type} {vs : List Nat} {g : FV} {ft : FT} {fe : FE} {ρ : Rho} (f h : α → D) (p : α → Bool) : ∀ {zs : List α} {acc : List D}, (∀ t ∈ zs, ∃ ρ1 ρ2, g (f t) ρ = some ρ1 ∧ ft ρ1 = some (p t, ρ2) ∧ (p t = true → ∃ ρ3, fF fe ρ2 = some (h t, ρ3) ∧ wipeR ρ3 vs = ρ) ∧ (p t = false → wipeR ρ2 vs = ρ)) → acc.length + zs.length ≤ sizeLine → lcL vs g ft fe (zs.map f) acc ρ = some (acc ++ (zs.filter p).map h, ρ)
  | [], acc, _, _ => by simp [lcL]
  | d :: r, acc, hs, hl => by
    obtain ⟨ρ1, ρ2, h1, h2, h3, h4⟩ := hs d (List.mem_cons_self ..)
    rw [List.map_cons]
    unfold lcL
    rw [h1]
    simp only [Option.bind_some]
    rw [h2]
    simp only [Option.bind_some]
    cases e : p d with
    | true =>
      obtain ⟨ρ3, h5, h6⟩ := h3 e
      rw [if_pos rfl, h5]
      simp only [Option.bind_some]
      rw [if_pos (by simp at hl; omega), h6, lcL_filF f h p (fun d hd => hs d (List.mem_cons_of_mem _ hd)) (by simp at hl ⊢; omega)]
      simp [e]
    | false =>
      rw [if_neg (by simp), h4 e, lcL_filF f h p (fun d hd => hs d (List.mem_cons_of_mem _ hd)) (by simp at hl ⊢; omega)]
      simp [e]
theorem fOp2_ok {g : D → D → Option Op} {fa fb : FE} {ρ ρ1 ρ2 : Rho} {a b : Op} {x y : D} {o : Op} (h1 : fa ρ = some (a, ρ1)) (h2 : fb ρ1 = some (b, ρ2)) (h3 : a.get ρ2 = some x) (h4 : b.get ρ2 = some y) (h5 : g x y = some o) : fOp2 g fa fb ρ = some (o, ρ2) := by
  unfold fOp2
  rw [h1]
  show ((fb ρ1).bind fun (b, ρ2) => (a.get ρ2).bind fun x => (b.get ρ2).bind fun y => (g x y).map fun o => (o, ρ2)) = _
  rw [h2]
  show ((a.get ρ2).bind fun x => (b.get ρ2).bind fun y => (g x y).map fun o => (o, ρ2)) = _
  rw [h3]
  show ((b.get ρ2).bind fun y => (g x y).map fun o => (o, ρ2)) = _
  rw [h4]
  show (g x y).map (fun o => (o, ρ2)) = _
  rw [h5]
  rfl
theorem fCall1_ok {g : List D → Option Op} {fe : FE} {ρ ρ1 : Rho} {o r : Op} {d : D} (h1 : fe ρ = some (o, ρ1)) (h2 : o.get ρ1 = some d) (h3 : g [d] = some r) : fCall g (aB fe aNil) ρ = some (r, ρ1) := by
  have e : aB fe aNil ρ = some ([o], ρ1) := by
    unfold aB
    rw [h1]
    rfl
  unfold fCall
  rw [e]
  show (gets ρ1 [o]).bind (fun ds => (g ds).map fun o => (o, ρ1)) = _
  have e2 : gets ρ1 [o] = some [d] := by
    unfold gets
    rw [h2]
    rfl
  rw [e2]
  show (g [d]).map (fun o => (o, ρ1)) = _
  rw [h3]
  rfl
theorem sRet_ok {fe : FE} {ρ ρ1 : Rho} {o : Op} {l : L} (h1 : fe ρ = some (o, ρ1)) (h2 : retL ρ1 o = some l) : sRet fe ρ = some (.ret l ρ1) := by
  unfold sRet
  rw [h1]
  show (retL ρ1 o).map (fun l => Out.ret l ρ1) = _
  rw [h2]
  rfl
theorem sSet_ok {i : Nat} {fe : FE} {ρ ρ1 ρ2 : Rho} {o : Op} (h1 : fe ρ = some (o, ρ1)) (h2 : gN i o ρ1 = some ρ2) : sSet i fe ρ = some (.nx ρ2) := by
  unfold sSet
  rw [h1]
  show (gN i o ρ1).map (fun ρ2 => Out.nx ρ2) = _
  rw [h2]
  rfl
theorem fLc_ok {fi : FI} {g : FV} {ft : FT} {fe : FE} {vs : List Nat} {ρ ρ1 ρ2 ρ3 : Rho} {ds l : List D} (h1 : fi ρ = some (ds, ρ1)) (h2 : calmR ρ1 vs = true) (h3 : lcL vs g ft fe ds [] (wipeR ρ1 vs) = some (l, ρ2)) (h4 : backR ρ1 ρ2 vs = ρ3) : fLc fi g ft fe vs ρ = some (.own (.lst l), ρ3) := by
  unfold fLc
  rw [h1]
  show (if calmR ρ1 vs = true then (lcL vs g ft fe ds [] (wipeR ρ1 vs)).map fun (l, ρ2) => (Op.own (.lst l), backR ρ1 ρ2 vs) else none) = _
  rw [if_pos h2, h3, ← h4]
  rfl
theorem fB_ok {ft : FT} {ρ ρ1 : Rho} {b : Bool} (h : ft ρ = some (b, ρ1)) : fB ft ρ = some (.val (.bl b), ρ1) := by
  unfold fB
  rw [h]
  rfl
theorem fT_ok {fe : FE} {ρ ρ1 : Rho} {b : Bool} (h : fe ρ = some (.val (.bl b), ρ1)) : fT fe ρ = some (b, ρ1) := by
  unfold fT
  rw [h]
  rfl
theorem fAnd_ok {f g : FT} {ρ ρ1 : Rho} {o : Option (Bool × Rho)} (h : f ρ = some (true, ρ1)) (h2 : g ρ1 = o) : fAnd f g ρ = o := by
  unfold fAnd
  rw [h]
  exact h2
theorem fOr_ok {f g : FT} {ρ ρ1 : Rho} {o : Option (Bool × Rho)} (h : f ρ = some (false, ρ1)) (h2 : g ρ1 = o) : fOr f g ρ = o := by
  unfold fOr
  rw [h]
  exact h2
theorem sIf_f {c : FT} {f g : FS} {ρ ρ1 : Rho} {o : Option Out} (h : c ρ = some (false, ρ1)) (h2 : g ρ1 = o) : sIf c f g ρ = o := by
  unfold sIf
  rw [h]
  exact h2
theorem sIf_t {c : FT} {f g : FS} {ρ ρ1 : Rho} {o : Option Out} (h : c ρ = some (true, ρ1)) (h2 : f ρ1 = o) : sIf c f g ρ = o := by
  unfold sIf
  rw [h]
  exact h2
theorem sFor_ok {fi : FI} {g : FV} {body : FS} {ρ ρ1 : Rho} {ds : List D} {o : Option Out} (h : fi ρ = some (ds, ρ1)) (h2 : forL g body ds ρ1 = o) : sFor fi g body ρ = o := by
  unfold sFor
  rw [h]
  exact h2
theorem fnS_ret {n m : Nat} {body : FS} {ls z : List L} {l : L} {ρ : Rho} (hn : ls.length = n) (hb : body (inL 0 ls ++ List.replicate (m - n) none) = some (.ret l ρ)) (ho : outL ρ 0 ls = some z) : fnS n m body ls = some (l, z) := by
  unfold fnS
  rw [if_pos hn, hb]
  show (outL ρ 0 ls).map (fun z => (l, z)) = _
  rw [ho]
  rfl
theorem fnS_nx {n m : Nat} {body : FS} {ls z : List L} {ρ : Rho} (hn : ls.length = n) (hb : body (inL 0 ls ++ List.replicate (m - n) none) = some (.nx ρ)) (ho : outL ρ 0 ls = some z) : fnS n m body ls = some (.fz .non, z) := by
  unfold fnS
  rw [if_pos hn, hb]
  show (outL ρ 0 ls).map (fun z => (L.fz .non, z)) = _
  rw [ho]
  rfl
theorem sSeq_nx {f g : FS} {ρ ρ1 : Rho} {o : Option Out} (h : f ρ = some (.nx ρ1)) (h2 : g ρ1 = o) : sSeq f g ρ = o := by
  unfold sSeq
  rw [h]
  exact h2
theorem mask_none {H : Hp} : mask (fun _ => false) H = H := rfl
theorem spF_law {K : Fr} {F : FN} {H : Hp} {a : Addr} {ns : List Int} {E : XK} (hS : SqL K H a (ns.map V.int)) (h : ∃ ls', F [.fz (.scr ns)] = some (.fz (.bl true), ls')) : spF K F [.ref a] H (fun v _ => v = .bl true) E := by
  obtain ⟨ls', h⟩ := h
  refine ⟨fun _ => false, [.fz (.scr ns)], _, ls', (fun p z => nomatch z), ⟨rfl, fun k l hk => ?_, fun j k x y d d' v hj => ?_⟩, h, fun v U' H' _ g => ?_⟩
  · cases k with
    | zero => cases hk; exact ⟨_, rfl, .scr hS⟩
    | succ k => simp at hk
  · cases j with
    | zero => cases hj
    | succ j => simp at hj
  · have g' : Rep K (mask U' H') v (.bl true) := g
    cases g'; rfl
end DV

set_option Elab.async false
set_option linter.all false
set_option maxRecDepth 100000
set_option maxHeartbeats 0
namespace DV
open PySem PySem.Spec PyProof.Rows L2
/-! ### the text -/
def top (i : Nat) : Stmt := PySem.Challenge.pw_nestsums_k05_values_on_long_rows.main.body.getD i (.Pass ⟨0, 0, 0, 0⟩)
def meth (i j : Nat) : Stmt := match top i with
  | .ClassDef (body := b) .. => b.getD j (.Pass ⟨0, 0, 0, 0⟩)
  | _ => .Pass ⟨0, 0, 0, 0⟩
def d__law_pool : He.DefD := ⟨("_law_pool", none), "_law_pool", "_law_pool", defArgs (top 11), defBody (top 11), defScope (top 11), [], []⟩
def d_power_of : He.DefD := ⟨("power_of", none), "power_of", "power_of", defArgs (top 4), defBody (top 4), defScope (top 4), [], []⟩
def d_sum_on : He.DefD := ⟨("sum_on", none), "sum_on", "sum_on", defArgs (top 7), defBody (top 7), defScope (top 7), [], []⟩
def d_Formula_value_on : He.DefD := ⟨("Formula", some "value_on"), "value_on", "Formula.value_on", defArgs (meth 8 3), defBody (meth 8 3), defScope (meth 8 3), [], []⟩
def d__law_draw : He.DefD := ⟨("_law_draw", none), "_law_draw", "_law_draw", defArgs (top 12), defBody (top 12), defScope (top 12), [], []⟩
def d__law_factor : He.DefD := ⟨("_law_factor", none), "_law_factor", "_law_factor", defArgs (top 13), defBody (top 13), defScope (top 13), [], []⟩
def d_is_word : He.DefD := ⟨("is_word", none), "is_word", "is_word", defArgs (top 6), defBody (top 6), defScope (top 6), [], []⟩
def d_Formula___init__ : He.DefD := ⟨("Formula", some "__init__"), "__init__", "Formula.__init__", defArgs (meth 8 0), defBody (meth 8 0), defScope (meth 8 0), [], []⟩
def d__law_letters : He.DefD := ⟨("_law_letters", none), "_law_letters", "_law_letters", defArgs (top 14), defBody (top 14), defScope (top 14), [], []⟩
def d__law_line : He.DefD := ⟨("_law_line", none), "_law_line", "_law_line", defArgs (top 15), defBody (top 15), defScope (top 15), [], []⟩
def d_word_formula : He.DefD := ⟨("word_formula", none), "word_formula", "word_formula", defArgs (top 9), defBody (top 9), defScope (top 9), [], []⟩
def d__law_chosen : He.DefD := ⟨("_law_chosen", none), "_law_chosen", "_law_chosen", defArgs (top 17), defBody (top 17), defScope (top 17), [], []⟩
def d__law_power : He.DefD := ⟨("_law_power", none), "_law_power", "_law_power", defArgs (top 16), defBody (top 16), defScope (top 16), [], []⟩
def d__law_right : He.DefD := ⟨("_law_right", none), "_law_right", "_law_right", defArgs (top 18), defBody (top 18), defScope (top 18), [], []⟩
def d_law : He.DefD := ⟨("law", none), "law", "law", defArgs (top 19), defBody (top 19), defScope (top 19), [], []⟩
def fn : List He.DefD := [d__law_pool, d_power_of, d_sum_on, d_Formula_value_on, d__law_draw, d__law_factor, d_is_word, d_Formula___init__, d__law_letters, d__law_line, d_word_formula, d__law_chosen, d__law_power, d__law_right, d_law]
def fa : List He.Fa := [.glo "_law_pool", .glo "power_of", .glo "sum_on", .glo "_law_draw", .glo "_law_factor", .glo "is_word", .glo "_law_letters", .glo "_law_line", .glo "word_formula", .glo "_law_chosen", .glo "_law_power", .glo "_law_right", .glo "law", .free "len", .free "int", .free "abs", .free "max", .free "range", .cls "Formula", .noat "Formula" "kept", .free "sum", .free "all", .free "enumerate", .free "tuple", .mkr "Formula", .glo "Formula", .meth "Formula" "value_on", .free "min"]
def cs : List Str := []
/-! ### the defs as functions -/
def S__law_pool : FS := (sSeq (sSet 2 (fC (.int 0))) (sSeq (sIf (fT (fOp2 (gCmp fun i j => decide (i < j)) (fV 1) (fCall gLen (aB (fV 0) aNil)))) (sSet 2 (fOp2 gIx (fV 0) (fV 1))) sNx) (sRet (fLst (aF (fCall gMax2 (aB (fC (.int 0)) (aB (fOp2 DV.gSub (fCall gAbs (aB (fV 2) aNil)) (fOp2 gPow (fC (.int 10)) (fC (.int 18)))) aNil))) (aF (fOp2 gAdd (fOp2 gMod (fCall gInt1 (aB (fV 2) aNil)) (fC (.int 2305843009213693951))) (fOp2 gMul (fC (.int 7368787)) (fOp2 gAdd (fV 1) (fC (.int 1))))) (aF (fC (.int 0)) aNil)))))))
def F__law_pool : FN := fnS 2 3 S__law_pool

def S_power_of : FS := (sSeq (sSet 2 (fC (.int 1))) (sSeq (sFor (fRange1 (aB (fV 1) aNil)) (vN 3) (sAugN 2 gIMul (fV 0))) (sRet (fV 2))))
def F_power_of : FN := fnS 2 4 S_power_of

def S_sum_on : FS := (sSeq (sSet 2 (fOp2 gAdd (fLst (aF (fC (.int 1)) aNil)) (fOp2 gMul (fLst (aF (fC (.int 0)) aNil)) (fCall gLen (aB (fV 0) aNil))))) (sSeq (sFor (fIterL (fV 1)) (vN 3) (sFor (fRange3 (aB (fCall gLen (aB (fV 0) aNil)) (aB (fC (.int 0)) (aB (fOp1 gNeg (fC (.int 1))) aNil)))) (vN 4) (sAugL 2 gIAdd (fV 4) (fOp2 gMul (fOp2 gIx (fV 2) (fOp2 DV.gSub (fV 4) (fC (.int 1)))) (fCallF F_power_of (aF (fV 3) (aF (fOp2 gIx (fV 0) (fOp2 DV.gSub (fV 4) (fC (.int 1)))) aNil))))))) (sRet (fOp2 gIx (fV 2) (fCall gLen (aB (fV 0) aNil))))))
def F_sum_on : FN := fnS 2 5 S_sum_on

def S_Formula_value_on : FS := (sRet (fCall gSum (aB (fLc (fIterT (fFld ["Formula"] "kept" (fV 0))) (vT [(vN 2), (vN 3)]) ftYes (fOp2 gMul (fV 2) (fCallF F_sum_on (aF (fV 3) (aF (fV 1) aNil)))) [2, 3]) aNil)))
def F_Formula_value_on : FN := fnS 2 4 S_Formula_value_on

def S__law_draw : FS := (sSeq (sIf (fT (fOp2 (gCmp fun i j => decide (j < i)) (fOp2 gIx (fV 0) (fC (.int 0))) (fC (.int 0)))) (sSeq (sSet 3 (fOp2 gMod (fCall gInt1 (aB (fOp2 gIx (fV 0) (fC (.int 0))) aNil)) (fV 1))) (sSeq (sPutL 0 (fC (.int 0)) (fOp2 gFdiv (fOp2 gIx (fV 0) (fC (.int 0))) (fV 1))) (sRet (fV 3)))) sNx) (sSeq (sPutL 0 (fC (.int 2)) (fOp2 gAdd (fOp2 gIx (fV 0) (fC (.int 2))) (fC (.int 1)))) (sSeq (sSet 2 (fOp2 gMod (fCall gInt1 (aB (fOp2 gPow (fOp2 gAdd (fOp2 gIx (fV 0) (fC (.int 1))) (fOp2 gMul (fC (.int 15485863)) (fOp2 gIx (fV 0) (fC (.int 2))))) (fC (.int 3))) aNil)) (fC (.int 162259276829213363391578010288127)))) (sSeq (sSet 2 (fOp2 gMod (fCall gInt1 (aB (fOp2 gPow (fOp2 gAdd (fV 2) (fOp2 gMul (fC (.int 32452843)) (fOp2 gIx (fV 0) (fC (.int 2))))) (fC (.int 3))) aNil)) (fC (.int 170141183460469231731687303715884105727)))) (sRet (fOp2 gMod (fCall gInt1 (aB (fOp2 gFdiv (fV 2) (fC (.int 1048576))) aNil)) (fV 1)))))))
def F__law_draw : FN := fnS 2 4 S__law_draw

def S__law_factor : FS := (sSeq (sPar 1 2 (fOp2 gAdd (fC (.int 1)) (fCallF F__law_draw (aB (fV 0) (aF (fC (.int 4)) aNil)))) (fOp2 gAdd (fC (.int 1)) (fCallF F__law_draw (aB (fV 0) (aF (fC (.int 99)) aNil))))) (sRet (fOp2 gMul (fOp2 gIx (fLst (aF (fC (.int 1)) (aF (fC (.int 1)) (aF (fV 1) (aF (fV 2) aNil))))) (fCallF F__law_draw (aB (fV 0) (aF (fC (.int 4)) aNil)))) (fOp2 DV.gSub (fC (.int 1)) (fOp2 gMul (fC (.int 2)) (fCallF F__law_draw (aB (fV 0) (aF (fC (.int 2)) aNil))))))))
def F__law_factor : FN := fnS 1 3 S__law_factor

def S_is_word : FS := (sRet (fCall gAll (aB (fLc (fIterL (fV 0)) (vN 1) ftYes (fOp2 (gCmp fun i j => decide (j ≤ i)) (fV 1) (fC (.int 0))) [1]) aNil)))
def F_is_word : FN := fnS 1 2 S_is_word

def S_Formula___init__ : FS := (sSeq (sFor (fEnum (aF (fV 1) aNil)) (vT [(vN 2), (vT [(vN 3), (vN 4)])]) (sIf (fNot (fT (fCallF F_is_word (aF (fV 4) aNil)))) (fun _ => none) sNx)) (sFldP ["Formula"] 0 "kept" (fCall gTuple (aB (fLc (fIterL (fV 1)) (vT [(vN 3), (vN 4)]) ftYes (fTup (aF (fV 3) (aF (fCall gTuple (aB (fV 4) aNil)) aNil))) [3, 4]) aNil))))
def F_Formula___init__ : FN := fnS 2 5 S_Formula___init__

def S__law_letters : FS := (sRet (fLc (fRange1 (aB (fCallF F__law_draw (aB (fV 0) (aF (fOp2 gAdd (fV 1) (fC (.int 1))) aNil))) aNil)) (vN 3) ftYes (fOp2 gIx (fLst (aF (fC (.int 0)) (aF (fC (.int 1)) (aF (fCallF F__law_draw (aB (fV 0) (aF (fOp2 gAdd (fV 2) (fC (.int 1))) aNil))) aNil)))) (fCallF F__law_draw (aB (fV 0) (aF (fC (.int 3)) aNil)))) [3]))
def F__law_letters : FN := fnS 3 4 S__law_letters

def S__law_line : FS := (sSeq (sSet 3 (fLst aNil)) (sSeq (sFor (fRange1 (aB (fCallF F__law_draw (aB (fV 0) (aF (fOp2 gAdd (fV 1) (fC (.int 1))) aNil))) aNil)) (vN 4) (sExpr (fMut "list" 3 gAppend (aF (fOp2 gIx (fLst (aF (fC (.int 0)) (aF (fC (.int 1)) (aF (fOp2 DV.gSub (fCallF F__law_draw (aB (fV 0) (aF (fC (.int 9)) aNil))) (fC (.int 4))) (aF (fOp2 DV.gSub (fCallF F__law_draw (aB (fV 0) (aF (fOp2 gAdd (fOp2 gMul (fC (.int 2)) (fV 2)) (fC (.int 1))) aNil))) (fV 2)) aNil))))) (fCallF F__law_draw (aB (fV 0) (aF (fC (.int 4)) aNil)))) aNil)))) (sRet (fV 3))))
def F__law_line : FN := fnS 3 5 S__law_line

def S_word_formula : FS := (sRet (fMake "Formula" F_Formula___init__ (aF (fLst (aF (fTup (aF (fC (.int 1)) (aF (fV 0) aNil))) aNil)) aNil)))
def F_word_formula : FN := fnS 1 1 S_word_formula

def S__law_chosen : FS := (sSeq (sSet 2 (fC (.int 1))) (sSeq (sFor (fRange1 (aB (fV 1) aNil)) (vN 3) (sSet 2 (fOp2 gFdiv (fOp2 gMul (fV 2) (fOp2 DV.gSub (fV 0) (fV 3))) (fOp2 gAdd (fV 3) (fC (.int 1)))))) (sRet (fV 2))))
def F__law_chosen : FN := fnS 2 4 S__law_chosen

def S__law_power : FS := (sSeq (sSet 2 (fC (.int 1))) (sSeq (sFor (fRange1 (aB (fV 1) aNil)) (vN 3) (sSet 2 (fOp2 gMul (fV 2) (fV 0)))) (sRet (fV 2))))
def F__law_power : FN := fnS 2 4 S__law_power

def S__law_right : FS := (sSeq (sPar 6 7 (fCallF F__law_letters (aB (fV 0) (aF (fC (.int 5)) (aF (fC (.int 4)) aNil)))) (fCallF F__law_line (aB (fV 0) (aF (fC (.int 39)) (aF (fOp2 gPow (fC (.int 10)) (fC (.int 6))) aNil))))) (sSeq (sPar 8 9 (fCallF F_word_formula (aF (fV 6) aNil)) (fOp2 DV.gSub (fCallF F__law_draw (aB (fV 0) (aF (fOp2 gAdd (fOp2 gMul (fC (.int 2)) (fOp2 gPow (fC (.int 10)) (fC (.int 6)))) (fC (.int 1))) aNil))) (fOp2 gPow (fC (.int 10)) (fC (.int 6))))) (sSeq (sSet 1 (fMeth "Formula" "value_on" F_Formula_value_on (fV 8) (aF (fV 7) aNil))) (sSeq (sIf (fT (fOp2 gNe (fV 6) (fLst aNil))) (sSet 1 (fOp2 gAdd (fV 1) (fOp2 gMul (fCallF F__law_power (aF (fV 9) (aF (fOp2 gIx (fV 6) (fOp1 gNeg (fC (.int 1)))) aNil))) (fMeth "Formula" "value_on" F_Formula_value_on (fO (fF (fCallF F_word_formula (aF (fSl (fV 6) fNoP (fP (fOp1 gNeg (fC (.int 1))))) aNil)))) (aF (fV 7) aNil))))) sNx) (sSeq (sIf (fT (fOp2 gNe (fMeth "Formula" "value_on" F_Formula_value_on (fV 8) (aF (fOp2 gAdd (fV 7) (fLst (aF (fV 9) aNil))) aNil)) (fV 1))) (sRet (fC (.bl false))) sNx) (sSeq (sSet 2 (fOp2 gAdd (fC (.int 1)) (fCallF F__law_draw (aB (fV 0) (aF (fC (.int 40)) aNil))))) (sSeq (sSet 1 (fIf (fT (fOp2 (gCmp fun i j => decide (i ≤ j)) (fCall gLen (aB (fV 6) aNil)) (fV 2))) (fOp2 gMul (fCallF F__law_chosen (aF (fV 2) (aF (fCall gLen (aB (fV 6) aNil)) aNil))) (fCallF F__law_power (aF (fV 9) (aF (fCall gSum (aB (fV 6) aNil)) aNil)))) (fC (.int 0)))) (sSeq (sIf (fT (fOp2 gNe (fMeth "Formula" "value_on" F_Formula_value_on (fV 8) (aF (fOp2 gMul (fLst (aF (fV 9) aNil)) (fV 2)) aNil)) (fV 1))) (sRet (fC (.bl false))) sNx) (sSeq (sSet 3 (fLst (aF (fMeth "Formula" "value_on" F_Formula_value_on (fO (fF (fCallF F_word_formula (aF (fLst (aF (fC (.int 0)) aNil)) aNil)))) (aF (fV 7) aNil)) (aF (fMeth "Formula" "value_on" F_Formula_value_on (fO (fF (fCallF F_word_formula (aF (fLst (aF (fC (.int 1)) aNil)) aNil)))) (aF (fV 7) aNil)) (aF (fMeth "Formula" "value_on" F_Formula_value_on (fO (fF (fCallF F_word_formula (aF (fLst (aF (fC (.int 0)) (aF (fC (.int 1)) aNil))) aNil)))) (aF (fV 7) aNil)) aNil))))) (sSeq (sIf (fT (fOp2 gNe (fV 3) (fLst (aF (fCall gLen (aB (fV 7) aNil)) (aF (fCall gSum (aB (fV 7) aNil)) (aF (fCall gSum (aB (fLc (fEnum (aF (fV 7) aNil)) (vT [(vN 11), (vN 10)]) ftYes (fOp2 gMul (fV 11) (fV 10)) [11, 10]) aNil)) aNil)))))) (sRet (fC (.bl false))) sNx) (sSeq (sSet 4 (fCallF F__law_factor (aB (fV 0) aNil))) (sSeq (sSet 5 (fMake "Formula" F_Formula___init__ (aF (fLst (aF (fTup (aF (fV 4) (aF (fV 6) aNil))) (aF (fTup (aF (fC (.int 1)) (aF (fLst (aF (fC (.int 2)) aNil)) aNil))) (aF (fTup (aF (fOp2 DV.gSub (fC (.int 0)) (fV 4)) (aF (fV 6) aNil))) aNil)))) aNil))) (sRet (fOp2 gEq (fMeth "Formula" "value_on" F_Formula_value_on (fV 5) (aF (fV 7) aNil)) (fCall gSum (aB (fLc (fIterL (fV 7)) (vN 10) ftYes (fOp2 gMul (fV 10) (fV 10)) [10]) aNil))))))))))))))))
def F__law_right : FN := fnS 1 12 S__law_right

def S_law : FS := (sSeq (sFor (fRange1 (aB (fCall gMax2 (aB (fC (.int 1)) (aB (fCall gMin2 (aB (fC (.int 6)) (aB (fCall gLen (aB (fV 0) aNil)) aNil))) aNil))) aNil)) (vN 1) (sSeq (sSet 2 (fCallF F__law_pool (aF (fV 0) (aF (fV 1) aNil)))) (sFor (fRange1 (aB (fC (.int 4)) aNil)) (vN 3) (sIf (fNot (fT (fCallF F__law_right (aB (fV 2) aNil)))) (sRet (fC (.bl false))) sNx)))) (sRet (fC (.bl true))))
def F_law : FN := fnS 1 4 S_law
/-! ### the walk -/
section
variable {P : Program} {w : World} {K : Fr} {mg : Str → Option Value} {base : Heap}
theorem sc__law_pool : FnScope ["script", "spot", "cell"] ["script", "spot"] (defScope (top 11)) := ⟨rfl, rfl, rfl, by decide +kernel, rfl, by decide +kernel, by decide +kernel⟩
theorem ok__law_pool (c : SaysX cs fa fn K) (I : K.In base) (G : base.Ns mainGlobals mg) : Cal P w K mg base 1 ("_law_pool", none) ["script", "spot"] F__law_pool := by
  have sc := sc__law_pool
  exact Cal.mk' (k := 0) (c.2.def_ 0 (d := d__law_pool) rfl) sc__law_pool (fun _ _ _ _ _ _ us hl => match us, hl with | [_, _], _ => rfl)
    fun cdv A o s H E hr => ⟨_, (q_seq (q_set 2 sc.nd q_int) (q_seq (q_ifs (q_tc oj_cmp op_lt (q_v 1) (q_b cj_len call_len (He.free_ok I G (c.2.fact 13 (f := .free "len") rfl)) (q_ab (q_v 0) q_anil))) (q_one (q_set 2 sc.nd (q_ix hr (q_v 0) (q_v 1)))) q_nil) (q_one (q_ret (q_lst (q_af (q_b cj_max2 (call_max2 rfl) (He.free_ok I G (c.2.fact 16 (f := .free "max") rfl)) (q_ab q_int (q_ab (q_op oj_sub op_sub (q_b cj_abs call_abs (He.free_ok I G (c.2.fact 15 (f := .free "abs") rfl)) (q_ab (q_v 2) q_anil)) (q_op oj_pow op_powG q_int q_int)) q_anil))) (q_af (q_op oj_add op_addA (q_op oj_mod op_modN (q_ty cj_int1 call_int1 (He.free_ok I G (c.2.fact 14 (f := .free "int") rfl)) (q_ab (q_v 2) q_anil)) q_int) (q_op oj_mul op_mulA q_int (q_op oj_add op_addA (q_v 1) q_int))) (q_af q_int q_anil))))))))⟩

theorem sc_power_of : FnScope ["number", "letter", "found", "turn"] ["number", "letter"] (defScope (top 4)) := ⟨rfl, rfl, rfl, by decide +kernel, rfl, by decide +kernel, by decide +kernel⟩
theorem ok_power_of (c : SaysX cs fa fn K) (I : K.In base) (G : base.Ns mainGlobals mg) : Cal P w K mg base 1 ("power_of", none) ["number", "letter"] F_power_of := by
  have sc := sc_power_of
  exact Cal.mk' (k := 0) (c.2.def_ 1 (d := d_power_of) rfl) sc_power_of (fun _ _ _ _ _ _ us hl => match us, hl with | [_, _], _ => rfl)
    fun cdv A o s H E hr => ⟨_, (q_seq (q_set 2 sc.nd q_int) (q_seq (q_for (q_r1 (He.free_ok I G (c.2.fact 17 (f := .free "range") rfl)) (q_ab (q_v 1) q_anil)) (q_gn 3 sc.nd) (q_one (q_augN 2 sc.nd ipj_mul ip_mul (q_v 0)))) (q_one (q_ret (q_v 2)))))⟩

theorem sc_sum_on : FnScope ["word", "row", "found", "number", "spot"] ["word", "row"] (defScope (top 7)) := ⟨rfl, rfl, rfl, by decide +kernel, rfl, by decide +kernel, by decide +kernel⟩
theorem ok_sum_on (c : SaysX cs fa fn K) (I : K.In base) (G : base.Ns mainGlobals mg) : Cal P w K mg base 2 ("sum_on", none) ["word", "row"] F_sum_on := by
  have sc := sc_sum_on
  exact Cal.mk' (k := 1) (c.2.def_ 2 (d := d_sum_on) rfl) sc_sum_on (fun _ _ _ _ _ _ us hl => match us, hl with | [_, _], _ => rfl)
    fun cdv A o s H E hr => ⟨_, (q_seq (q_set 2 sc.nd (q_op oj_add op_addA (q_lst (q_af q_int q_anil)) (q_op oj_mul op_mulA (q_lst (q_af q_int q_anil)) (q_b cj_len call_len (He.free_ok I G (c.2.fact 13 (f := .free "len") rfl)) (q_ab (q_v 0) q_anil))))) (q_seq (q_for (q_il (q_v 1)) (q_gn 3 sc.nd) (q_one (q_for (q_r3 (He.free_ok I G (c.2.fact 17 (f := .free "range") rfl)) (q_ab (q_b cj_len call_len (He.free_ok I G (c.2.fact 13 (f := .free "len") rfl)) (q_ab (q_v 0) q_anil)) (q_ab q_int (q_ab (q_neg q_int) q_anil)))) (q_gn 4 sc.nd) (q_one (q_augL 2 ipj_add ip_add (q_v 4) (q_op oj_mul op_mulA (q_ix hr (q_v 2) (q_op oj_sub op_sub (q_v 4) q_int)) (q_call (ok_power_of c I G) hr (He.glo_ok I G (c.2.fact 1 (f := .glo "power_of") rfl)) (q_af (q_v 3) (q_af (q_ix hr (q_v 0) (q_op oj_sub op_sub (q_v 4) q_int)) q_anil))))))))) (q_one (q_ret (q_ix hr (q_v 2) (q_b cj_len call_len (He.free_ok I G (c.2.fact 13 (f := .free "len") rfl)) (q_ab (q_v 0) q_anil)))))))⟩

theorem sc_Formula_value_on : FnScope ["self", "row", "coefficient", "word"] ["self", "row"] (defScope (meth 8 3)) := ⟨rfl, rfl, rfl, by decide +kernel, rfl, by decide +kernel, by decide +kernel⟩
theorem ok_Formula_value_on (c : SaysX cs fa fn K) (I : K.In base) (G : base.Ns mainGlobals mg) : Cal P w K mg base 3 ("Formula", some "value_on") ["self", "row"] F_Formula_value_on := by
  have sc := sc_Formula_value_on
  exact Cal.mk' (k := 2) (c.2.def_ 3 (d := d_Formula_value_on) rfl) sc_Formula_value_on (fun _ _ _ _ _ _ us hl => match us, hl with | [_, _], _ => rfl)
    fun cdv A o s H E hr => ⟨_, (q_one (q_ret (q_b cj_sum (cr_sum rfl) (He.free_ok I G (c.2.fact 20 (f := .free "sum") rfl)) (q_ab (q_lc [("coefficient", 2), ("word", 3)] sc.nd (q_it (q_fld (fun _ hx => by rw [List.mem_singleton.mp hx]; exact ⟨(He.cls_ok (c.2.fact 18 (f := .cls "Formula") rfl)), (He.noat_ok (c.2.fact 19 (f := .noat "Formula" "kept") rfl))⟩) (q_v 0))) (blkOk_by (N := ["self", "row", "coefficient", "word"]) (sc := defScope (meth 8 3)) (by decide +kernel)) (fun _ _ _ _ _ => (q_gt 2 (q_gs (q_gn 2 sc.nd) (q_gs (q_gn 3 sc.nd) q_gs0)))) (fun _ _ _ _ _ => q_ts0) (fun _ _ _ _ _ => (q_op oj_mul op_mulA (q_v 2) (q_call (ok_sum_on c I G) hr (He.glo_ok I G (c.2.fact 2 (f := .glo "sum_on") rfl)) (q_af (q_v 3) (q_af (q_v 1) q_anil)))))) q_anil))))⟩

theorem sc__law_draw : FnScope ["pool", "amount", "mixed", "drawn"] ["pool", "amount"] (defScope (top 12)) := ⟨rfl, rfl, rfl, by decide +kernel, rfl, by decide +kernel, by decide +kernel⟩
theorem ok__law_draw (c : SaysX cs fa fn K) (I : K.In base) (G : base.Ns mainGlobals mg) : Cal P w K mg base 1 ("_law_draw", none) ["pool", "amount"] F__law_draw := by
  have sc := sc__law_draw
  exact Cal.mk' (k := 0) (c.2.def_ 4 (d := d__law_draw) rfl) sc__law_draw (fun _ _ _ _ _ _ us hl => match us, hl with | [_, _], _ => rfl)
    fun cdv A o s H E hr => ⟨_, (q_seq (q_ifs (q_tc oj_cmp op_gt (q_ix hr (q_v 0) q_int) q_int) (q_seq (q_set 3 sc.nd (q_op oj_mod op_modN (q_ty cj_int1 call_int1 (He.free_ok I G (c.2.fact 14 (f := .free "int") rfl)) (q_ab (q_ix hr (q_v 0) q_int) q_anil)) (q_v 1))) (q_seq (q_putL 0 (q_op oj_fdiv op_fdivG (q_ix hr (q_v 0) q_int) (q_v 1)) q_int) (q_one (q_ret (q_v 3))))) q_nil) (q_seq (q_putL 0 (q_op oj_add op_addA (q_ix hr (q_v 0) q_int) q_int) q_int) (q_seq (q_set 2 sc.nd (q_op oj_mod op_modN (q_ty cj_int1 call_int1 (He.free_ok I G (c.2.fact 14 (f := .free "int") rfl)) (q_ab (q_op oj_pow op_powG (q_op oj_add op_addA (q_ix hr (q_v 0) q_int) (q_op oj_mul op_mulA q_int (q_ix hr (q_v 0) q_int))) q_int) q_anil)) q_int)) (q_seq (q_set 2 sc.nd (q_op oj_mod op_modN (q_ty cj_int1 call_int1 (He.free_ok I G (c.2.fact 14 (f := .free "int") rfl)) (q_ab (q_op oj_pow op_powG (q_op oj_add op_addA (q_v 2) (q_op oj_mul op_mulA q_int (q_ix hr (q_v 0) q_int))) q_int) q_anil)) q_int)) (q_one (q_ret (q_op oj_mod op_modN (q_ty cj_int1 call_int1 (He.free_ok I G (c.2.fact 14 (f := .free "int") rfl)) (q_ab (q_op oj_fdiv op_fdivG (q_v 2) q_int) q_anil)) (q_v 1))))))))⟩

theorem sc__law_factor : FnScope ["pool", "small", "great"] ["pool"] (defScope (top 13)) := ⟨rfl, rfl, rfl, by decide +kernel, rfl, by decide +kernel, by decide +kernel⟩
theorem ok__law_factor (c : SaysX cs fa fn K) (I : K.In base) (G : base.Ns mainGlobals mg) : Cal P w K mg base 2 ("_law_factor", none) ["pool"] F__law_factor := by
  have sc := sc__law_factor
  exact Cal.mk' (k := 1) (c.2.def_ 5 (d := d__law_factor) rfl) sc__law_factor (fun _ _ _ _ _ _ us hl => match us, hl with | [_], _ => rfl)
    fun cdv A o s H E hr => ⟨_, (q_seq (q_par 1 2 sc.nd (q_op oj_add op_addA q_int (q_call (ok__law_draw c I G) hr (He.glo_ok I G (c.2.fact 3 (f := .glo "_law_draw") rfl)) (q_ab (q_v 0) (q_af q_int q_anil)))) (q_op oj_add op_addA q_int (q_call (ok__law_draw c I G) hr (He.glo_ok I G (c.2.fact 3 (f := .glo "_law_draw") rfl)) (q_ab (q_v 0) (q_af q_int q_anil))))) (q_one (q_ret (q_op oj_mul op_mulA (q_ix hr (q_lst (q_af q_int (q_af q_int (q_af (q_v 1) (q_af (q_v 2) q_anil))))) (q_call (ok__law_draw c I G) hr (He.glo_ok I G (c.2.fact 3 (f := .glo "_law_draw") rfl)) (q_ab (q_v 0) (q_af q_int q_anil)))) (q_op oj_sub op_sub q_int (q_op oj_mul op_mulA q_int (q_call (ok__law_draw c I G) hr (He.glo_ok I G (c.2.fact 3 (f := .glo "_law_draw") rfl)) (q_ab (q_v 0) (q_af q_int q_anil)))))))))⟩

theorem sc_is_word : FnScope ["word", "letter"] ["word"] (defScope (top 6)) := ⟨rfl, rfl, rfl, by decide +kernel, rfl, by decide +kernel, by decide +kernel⟩
theorem ok_is_word (c : SaysX cs fa fn K) (I : K.In base) (G : base.Ns mainGlobals mg) : Cal P w K mg base 1 ("is_word", none) ["word"] F_is_word := by
  have sc := sc_is_word
  exact Cal.mk' (k := 0) (c.2.def_ 6 (d := d_is_word) rfl) sc_is_word (fun _ _ _ _ _ _ us hl => match us, hl with | [_], _ => rfl)
    fun cdv A o s H E hr => ⟨_, (q_one (q_ret (q_b cj_all (cr_all rfl) (He.free_ok I G (c.2.fact 21 (f := .free "all") rfl)) (q_ab (q_lc [("letter", 1)] sc.nd (q_il (q_v 0)) (blkOk_by (N := ["word", "letter"]) (sc := defScope (top 6)) (by decide +kernel)) (fun _ _ _ _ _ => (q_gn 1 sc.nd)) (fun _ _ _ _ _ => q_ts0) (fun _ _ _ _ _ => (q_cmp oj_cmp op_ge (q_v 1) q_int))) q_anil))))⟩

theorem sc_Formula___init__ : FnScope ["self", "terms", "number", "coefficient", "word"] ["self", "terms"] (defScope (meth 8 0)) := ⟨rfl, rfl, rfl, by decide +kernel, rfl, by decide +kernel, by decide +kernel⟩
theorem ok_Formula___init__ (c : SaysX cs fa fn K) (I : K.In base) (G : base.Ns mainGlobals mg) : Cal P w K mg base 2 ("Formula", some "__init__") ["self", "terms"] F_Formula___init__ := by
  have sc := sc_Formula___init__
  exact Cal.mk' (k := 1) (c.2.def_ 7 (d := d_Formula___init__) rfl) sc_Formula___init__ (fun _ _ _ _ _ _ us hl => match us, hl with | [_, _], _ => rfl)
    fun cdv A o s H E hr => ⟨_, (q_seq (q_for (q_en (He.free_ok I G (c.2.fact 22 (f := .free "enumerate") rfl)) (q_af (q_v 1) q_anil)) (q_gt 2 (q_gs (q_gn 2 sc.nd) (q_gs (q_gt 2 (q_gs (q_gn 3 sc.nd) (q_gs (q_gn 4 sc.nd) q_gs0))) q_gs0))) (q_one (q_ifs (q_tn (q_t (q_call (ok_is_word c I G) hr (He.glo_ok I G (c.2.fact 5 (f := .glo "is_word") rfl)) (q_af (q_v 4) q_anil)))) (q_one q_never) q_nil))) (q_one (q_fset 0 (fun _ hx => by rw [List.mem_singleton.mp hx]; exact ⟨(He.cls_ok (c.2.fact 18 (f := .cls "Formula") rfl)), (He.noat_ok (c.2.fact 19 (f := .noat "Formula" "kept") rfl))⟩) (q_ty cj_tuple call_tuple_of (He.free_ok I G (c.2.fact 23 (f := .free "tuple") rfl)) (q_ab (q_lc [("coefficient", 3), ("word", 4)] sc.nd (q_il (q_v 1)) (blkOk_by (N := ["self", "terms", "number", "coefficient", "word"]) (sc := defScope (meth 8 0)) (by decide +kernel)) (fun _ _ _ _ _ => (q_gt 2 (q_gs (q_gn 3 sc.nd) (q_gs (q_gn 4 sc.nd) q_gs0)))) (fun _ _ _ _ _ => q_ts0) (fun _ _ _ _ _ => (q_tup (q_af (q_v 3) (q_af (q_ty cj_tuple call_tuple_of (He.free_ok I G (c.2.fact 23 (f := .free "tuple") rfl)) (q_ab (q_v 4) q_anil)) q_anil))))) q_anil)))))⟩

theorem sc__law_letters : FnScope ["pool", "longest", "great", "turn"] ["pool", "longest", "great"] (defScope (top 14)) := ⟨rfl, rfl, rfl, by decide +kernel, rfl, by decide +kernel, by decide +kernel⟩
theorem ok__law_letters (c : SaysX cs fa fn K) (I : K.In base) (G : base.Ns mainGlobals mg) : Cal P w K mg base 2 ("_law_letters", none) ["pool", "longest", "great"] F__law_letters := by
  have sc := sc__law_letters
  exact Cal.mk' (k := 1) (c.2.def_ 8 (d := d__law_letters) rfl) sc__law_letters (fun _ _ _ _ _ _ us hl => match us, hl with | [_, _, _], _ => rfl)
    fun cdv A o s H E hr => ⟨_, (q_one (q_ret (q_lc [("turn", 3)] sc.nd (q_r1 (He.free_ok I G (c.2.fact 17 (f := .free "range") rfl)) (q_ab (q_call (ok__law_draw c I G) hr (He.glo_ok I G (c.2.fact 3 (f := .glo "_law_draw") rfl)) (q_ab (q_v 0) (q_af (q_op oj_add op_addA (q_v 1) q_int) q_anil))) q_anil)) (blkOk_by (N := ["pool", "longest", "great", "turn"]) (sc := defScope (top 14)) (by decide +kernel)) (fun _ _ _ _ _ => (q_gn 3 sc.nd)) (fun _ _ _ _ _ => q_ts0) (fun _ _ _ _ _ => (q_ix hr (q_lst (q_af q_int (q_af q_int (q_af (q_call (ok__law_draw c I G) hr (He.glo_ok I G (c.2.fact 3 (f := .glo "_law_draw") rfl)) (q_ab (q_v 0) (q_af (q_op oj_add op_addA (q_v 2) q_int) q_anil))) q_anil)))) (q_call (ok__law_draw c I G) hr (He.glo_ok I G (c.2.fact 3 (f := .glo "_law_draw") rfl)) (q_ab (q_v 0) (q_af q_int q_anil))))))))⟩

theorem sc__law_line : FnScope ["pool", "longest", "great", "found", "turn"] ["pool", "longest", "great"] (defScope (top 15)) := ⟨rfl, rfl, rfl, by decide +kernel, rfl, by decide +kernel, by decide +kernel⟩
theorem ok__law_line (c : SaysX cs fa fn K) (I : K.In base) (G : base.Ns mainGlobals mg) : Cal P w K mg base 2 ("_law_line", none) ["pool", "longest", "great"] F__law_line := by
  have sc := sc__law_line
  exact Cal.mk' (k := 1) (c.2.def_ 9 (d := d__law_line) rfl) sc__law_line (fun _ _ _ _ _ _ us hl => match us, hl with | [_, _, _], _ => rfl)
    fun cdv A o s H E hr => ⟨_, (q_seq (q_set 3 sc.nd (q_lst q_anil)) (q_seq (q_for (q_r1 (He.free_ok I G (c.2.fact 17 (f := .free "range") rfl)) (q_ab (q_call (ok__law_draw c I G) hr (He.glo_ok I G (c.2.fact 3 (f := .glo "_law_draw") rfl)) (q_ab (q_v 0) (q_af (q_op oj_add op_addA (q_v 1) q_int) q_anil))) q_anil)) (q_gn 4 sc.nd) (q_one (q_expr (q_mut 3 PySem.F.plainAttrs_list PySem.F.slot_list_append PySem.F.type_list_append mj_append mt_append (q_af (q_ix hr (q_lst (q_af q_int (q_af q_int (q_af (q_op oj_sub op_sub (q_call (ok__law_draw c I G) hr (He.glo_ok I G (c.2.fact 3 (f := .glo "_law_draw") rfl)) (q_ab (q_v 0) (q_af q_int q_anil))) q_int) (q_af (q_op oj_sub op_sub (q_call (ok__law_draw c I G) hr (He.glo_ok I G (c.2.fact 3 (f := .glo "_law_draw") rfl)) (q_ab (q_v 0) (q_af (q_op oj_add op_addA (q_op oj_mul op_mulA q_int (q_v 2)) q_int) q_anil))) (q_v 2)) q_anil))))) (q_call (ok__law_draw c I G) hr (He.glo_ok I G (c.2.fact 3 (f := .glo "_law_draw") rfl)) (q_ab (q_v 0) (q_af q_int q_anil)))) q_anil))))) (q_one (q_ret (q_v 3)))))⟩

theorem sc_word_formula : FnScope ["word"] ["word"] (defScope (top 9)) := ⟨rfl, rfl, rfl, by decide +kernel, rfl, by decide +kernel, by decide +kernel⟩
theorem ok_word_formula (c : SaysX cs fa fn K) (I : K.In base) (G : base.Ns mainGlobals mg) : Cal P w K mg base 4 ("word_formula", none) ["word"] F_word_formula := by
  have sc := sc_word_formula
  exact Cal.mk' (k := 3) (c.2.def_ 10 (d := d_word_formula) rfl) sc_word_formula (fun _ _ _ _ _ _ us hl => match us, hl with | [_], _ => rfl)
    fun cdv A o s H E hr => ⟨_, (q_one (q_ret (q_make (He.mkr_ok (c.2.fact 24 (f := .mkr "Formula") rfl)) (ok_Formula___init__ c I G) hr (He.glo_ok I G (c.2.fact 25 (f := .glo "Formula") rfl)) (q_af (q_lst (q_af (q_tup (q_af q_int (q_af (q_v 0) q_anil))) q_anil)) q_anil))))⟩

theorem sc__law_chosen : FnScope ["great", "few", "found", "turn"] ["great", "few"] (defScope (top 17)) := ⟨rfl, rfl, rfl, by decide +kernel, rfl, by decide +kernel, by decide +kernel⟩
theorem ok__law_chosen (c : SaysX cs fa fn K) (I : K.In base) (G : base.Ns mainGlobals mg) : Cal P w K mg base 1 ("_law_chosen", none) ["great", "few"] F__law_chosen := by
  have sc := sc__law_chosen
  exact Cal.mk' (k := 0) (c.2.def_ 11 (d := d__law_chosen) rfl) sc__law_chosen (fun _ _ _ _ _ _ us hl => match us, hl with | [_, _], _ => rfl)
    fun cdv A o s H E hr => ⟨_, (q_seq (q_set 2 sc.nd q_int) (q_seq (q_for (q_r1 (He.free_ok I G (c.2.fact 17 (f := .free "range") rfl)) (q_ab (q_v 1) q_anil)) (q_gn 3 sc.nd) (q_one (q_set 2 sc.nd (q_op oj_fdiv op_fdivG (q_op oj_mul op_mulA (q_v 2) (q_op oj_sub op_sub (q_v 0) (q_v 3))) (q_op oj_add op_addA (q_v 3) q_int))))) (q_one (q_ret (q_v 2)))))⟩

theorem sc__law_power : FnScope ["size", "often", "found", "turn"] ["size", "often"] (defScope (top 16)) := ⟨rfl, rfl, rfl, by decide +kernel, rfl, by decide +kernel, by decide +kernel⟩
theorem ok__law_power (c : SaysX cs fa fn K) (I : K.In base) (G : base.Ns mainGlobals mg) : Cal P w K mg base 1 ("_law_power", none) ["size", "often"] F__law_power := by
  have sc := sc__law_power
  exact Cal.mk' (k := 0) (c.2.def_ 12 (d := d__law_power) rfl) sc__law_power (fun _ _ _ _ _ _ us hl => match us, hl with | [_, _], _ => rfl)
    fun cdv A o s H E hr => ⟨_, (q_seq (q_set 2 sc.nd q_int) (q_seq (q_for (q_r1 (He.free_ok I G (c.2.fact 17 (f := .free "range") rfl)) (q_ab (q_v 1) q_anil)) (q_gn 3 sc.nd) (q_one (q_set 2 sc.nd (q_op oj_mul op_mulA (q_v 2) (q_v 0))))) (q_one (q_ret (q_v 2)))))⟩

theorem sc__law_right : FnScope ["pool", "due", "size", "told", "share", "some", "letters", "line", "made", "last", "cell", "at"] ["pool"] (defScope (top 18)) := ⟨rfl, rfl, rfl, by decide +kernel, rfl, by decide +kernel, by decide +kernel⟩
theorem ok__law_right (c : SaysX cs fa fn K) (I : K.In base) (G : base.Ns mainGlobals mg) : Cal P w K mg base 5 ("_law_right", none) ["pool"] F__law_right := by
  have sc := sc__law_right
  exact Cal.mk' (k := 4) (c.2.def_ 13 (d := d__law_right) rfl) sc__law_right (fun _ _ _ _ _ _ us hl => match us, hl with | [_], _ => rfl)
    fun cdv A o s H E hr => ⟨_, (q_seq (q_par 6 7 sc.nd (q_call (ok__law_letters c I G) hr (He.glo_ok I G (c.2.fact 6 (f := .glo "_law_letters") rfl)) (q_ab (q_v 0) (q_af q_int (q_af q_int q_anil)))) (q_call (ok__law_line c I G) hr (He.glo_ok I G (c.2.fact 7 (f := .glo "_law_line") rfl)) (q_ab (q_v 0) (q_af q_int (q_af (q_op oj_pow op_powG q_int q_int) q_anil))))) (q_seq (q_par 8 9 sc.nd (q_call (ok_word_formula c I G) hr (He.glo_ok I G (c.2.fact 8 (f := .glo "word_formula") rfl)) (q_af (q_v 6) q_anil)) (q_op oj_sub op_sub (q_call (ok__law_draw c I G) hr (He.glo_ok I G (c.2.fact 3 (f := .glo "_law_draw") rfl)) (q_ab (q_v 0) (q_af (q_op oj_add op_addA (q_op oj_mul op_mulA q_int (q_op oj_pow op_powG q_int q_int)) q_int) q_anil))) (q_op oj_pow op_powG q_int q_int))) (q_seq (q_set 1 sc.nd (q_meth (He.cls_ok (c.2.fact 18 (f := .cls "Formula") rfl)) (He.meth_ok (c.2.fact 26 (f := .meth "Formula" "value_on") rfl)) (ok_Formula_value_on c I G) hr (q_v 8) (q_af (q_v 7) q_anil))) (q_seq (q_ifs (q_tc oj_ne (op_neD hr.units) (q_v 6) (q_lst q_anil)) (q_one (q_set 1 sc.nd (q_op oj_add op_addA (q_v 1) (q_op oj_mul op_mulA (q_call (ok__law_power c I G) hr (He.glo_ok I G (c.2.fact 10 (f := .glo "_law_power") rfl)) (q_af (q_v 9) (q_af (q_ix hr (q_v 6) (q_neg q_int)) q_anil))) (q_meth (He.cls_ok (c.2.fact 18 (f := .cls "Formula") rfl)) (He.meth_ok (c.2.fact 26 (f := .meth "Formula" "value_on") rfl)) (ok_Formula_value_on c I G) hr (q_frz (q_call (ok_word_formula c I G) hr (He.glo_ok I G (c.2.fact 8 (f := .glo "word_formula") rfl)) (q_af (q_sl (q_v 6) q_onone (q_osome (q_neg q_int))) q_anil))) (q_af (q_v 7) q_anil)))))) q_nil) (q_seq (q_ifs (q_tc oj_ne (op_neD hr.units) (q_meth (He.cls_ok (c.2.fact 18 (f := .cls "Formula") rfl)) (He.meth_ok (c.2.fact 26 (f := .meth "Formula" "value_on") rfl)) (ok_Formula_value_on c I G) hr (q_v 8) (q_af (q_op oj_add op_addA (q_v 7) (q_lst (q_af (q_v 9) q_anil))) q_anil)) (q_v 1)) (q_one (q_ret q_bl)) q_nil) (q_seq (q_set 2 sc.nd (q_op oj_add op_addA q_int (q_call (ok__law_draw c I G) hr (He.glo_ok I G (c.2.fact 3 (f := .glo "_law_draw") rfl)) (q_ab (q_v 0) (q_af q_int q_anil))))) (q_seq (q_set 1 sc.nd (q_if (q_tc oj_cmp op_le (q_b cj_len call_len (He.free_ok I G (c.2.fact 13 (f := .free "len") rfl)) (q_ab (q_v 6) q_anil)) (q_v 2)) (q_op oj_mul op_mulA (q_call (ok__law_chosen c I G) hr (He.glo_ok I G (c.2.fact 9 (f := .glo "_law_chosen") rfl)) (q_af (q_v 2) (q_af (q_b cj_len call_len (He.free_ok I G (c.2.fact 13 (f := .free "len") rfl)) (q_ab (q_v 6) q_anil)) q_anil))) (q_call (ok__law_power c I G) hr (He.glo_ok I G (c.2.fact 10 (f := .glo "_law_power") rfl)) (q_af (q_v 9) (q_af (q_b cj_sum (cr_sum rfl) (He.free_ok I G (c.2.fact 20 (f := .free "sum") rfl)) (q_ab (q_v 6) q_anil)) q_anil)))) q_int)) (q_seq (q_ifs (q_tc oj_ne (op_neD hr.units) (q_meth (He.cls_ok (c.2.fact 18 (f := .cls "Formula") rfl)) (He.meth_ok (c.2.fact 26 (f := .meth "Formula" "value_on") rfl)) (ok_Formula_value_on c I G) hr (q_v 8) (q_af (q_op oj_mul op_mulA (q_lst (q_af (q_v 9) q_anil)) (q_v 2)) q_anil)) (q_v 1)) (q_one (q_ret q_bl)) q_nil) (q_seq (q_set 3 sc.nd (q_lst (q_af (q_meth (He.cls_ok (c.2.fact 18 (f := .cls "Formula") rfl)) (He.meth_ok (c.2.fact 26 (f := .meth "Formula" "value_on") rfl)) (ok_Formula_value_on c I G) hr (q_frz (q_call (ok_word_formula c I G) hr (He.glo_ok I G (c.2.fact 8 (f := .glo "word_formula") rfl)) (q_af (q_lst (q_af q_int q_anil)) q_anil))) (q_af (q_v 7) q_anil)) (q_af (q_meth (He.cls_ok (c.2.fact 18 (f := .cls "Formula") rfl)) (He.meth_ok (c.2.fact 26 (f := .meth "Formula" "value_on") rfl)) (ok_Formula_value_on c I G) hr (q_frz (q_call (ok_word_formula c I G) hr (He.glo_ok I G (c.2.fact 8 (f := .glo "word_formula") rfl)) (q_af (q_lst (q_af q_int q_anil)) q_anil))) (q_af (q_v 7) q_anil)) (q_af (q_meth (He.cls_ok (c.2.fact 18 (f := .cls "Formula") rfl)) (He.meth_ok (c.2.fact 26 (f := .meth "Formula" "value_on") rfl)) (ok_Formula_value_on c I G) hr (q_frz (q_call (ok_word_formula c I G) hr (He.glo_ok I G (c.2.fact 8 (f := .glo "word_formula") rfl)) (q_af (q_lst (q_af q_int (q_af q_int q_anil))) q_anil))) (q_af (q_v 7) q_anil)) q_anil))))) (q_seq (q_ifs (q_tc oj_ne (op_neD hr.units) (q_v 3) (q_lst (q_af (q_b cj_len call_len (He.free_ok I G (c.2.fact 13 (f := .free "len") rfl)) (q_ab (q_v 7) q_anil)) (q_af (q_b cj_sum (cr_sum rfl) (He.free_ok I G (c.2.fact 20 (f := .free "sum") rfl)) (q_ab (q_v 7) q_anil)) (q_af (q_b cj_sum (cr_sum rfl) (He.free_ok I G (c.2.fact 20 (f := .free "sum") rfl)) (q_ab (q_lc [("at", 11), ("cell", 10)] sc.nd (q_en (He.free_ok I G (c.2.fact 22 (f := .free "enumerate") rfl)) (q_af (q_v 7) q_anil)) (blkOk_by (N := ["pool", "due", "size", "told", "share", "some", "letters", "line", "made", "last", "cell", "at"]) (sc := defScope (top 18)) (by decide +kernel)) (fun _ _ _ _ _ => (q_gt 2 (q_gs (q_gn 11 sc.nd) (q_gs (q_gn 10 sc.nd) q_gs0)))) (fun _ _ _ _ _ => q_ts0) (fun _ _ _ _ _ => (q_op oj_mul op_mulA (q_v 11) (q_v 10)))) q_anil)) q_anil))))) (q_one (q_ret q_bl)) q_nil) (q_seq (q_set 4 sc.nd (q_call (ok__law_factor c I G) hr (He.glo_ok I G (c.2.fact 4 (f := .glo "_law_factor") rfl)) (q_ab (q_v 0) q_anil))) (q_seq (q_set 5 sc.nd (q_make (He.mkr_ok (c.2.fact 24 (f := .mkr "Formula") rfl)) (ok_Formula___init__ c I G) hr (He.glo_ok I G (c.2.fact 25 (f := .glo "Formula") rfl)) (q_af (q_lst (q_af (q_tup (q_af (q_v 4) (q_af (q_v 6) q_anil))) (q_af (q_tup (q_af q_int (q_af (q_lst (q_af q_int q_anil)) q_anil))) (q_af (q_tup (q_af (q_op oj_sub op_sub q_int (q_v 4)) (q_af (q_v 6) q_anil))) q_anil)))) q_anil))) (q_one (q_ret (q_cmp oj_eq (op_eqD hr.units) (q_meth (He.cls_ok (c.2.fact 18 (f := .cls "Formula") rfl)) (He.meth_ok (c.2.fact 26 (f := .meth "Formula" "value_on") rfl)) (ok_Formula_value_on c I G) hr (q_v 5) (q_af (q_v 7) q_anil)) (q_b cj_sum (cr_sum rfl) (He.free_ok I G (c.2.fact 20 (f := .free "sum") rfl)) (q_ab (q_lc [("cell", 10)] sc.nd (q_il (q_v 7)) (blkOk_by (N := ["pool", "due", "size", "told", "share", "some", "letters", "line", "made", "last", "cell", "at"]) (sc := defScope (top 18)) (by decide +kernel)) (fun _ _ _ _ _ => (q_gn 10 sc.nd)) (fun _ _ _ _ _ => q_ts0) (fun _ _ _ _ _ => (q_op oj_mul op_mulA (q_v 10) (q_v 10)))) q_anil)))))))))))))))))⟩

theorem sc_law : FnScope ["script", "spot", "pool", "turn"] ["script"] (defScope (top 19)) := ⟨rfl, rfl, rfl, by decide +kernel, rfl, by decide +kernel, by decide +kernel⟩
theorem ok_law (c : SaysX cs fa fn K) (I : K.In base) (G : base.Ns mainGlobals mg) : CalG P w K mg base 6 ("law", none) ["script"] F_law := by
  have sc := sc_law
  exact CalG.mk' (k := 5) (c.2.def_ 14 (d := d_law) rfl) sc_law (fun _ _ _ _ _ _ us hl => match us, hl with | [_], _ => rfl)
    fun cdv A o s H E gd hr => ⟨_, (q_seq (q_for (q_r1 (He.free_ok I G (c.2.fact 17 (f := .free "range") rfl)) (q_ab (q_b cj_max2 (call_max2 rfl) (He.free_ok I G (c.2.fact 16 (f := .free "max") rfl)) (q_ab q_int (q_ab (q_b cj_min2 (call_min2 rfl) (He.free_ok I G (c.2.fact 27 (f := .free "min") rfl)) (q_ab q_int (q_ab (q_b cj_len call_len (He.free_ok I G (c.2.fact 13 (f := .free "len") rfl)) (q_ab (q_v 0) q_anil)) q_anil))) q_anil))) q_anil)) (q_gn 1 sc.nd) (q_seq (q_set 2 sc.nd (q_call (ok__law_pool c I G) hr (He.glo_ok I G (c.2.fact 0 (f := .glo "_law_pool") rfl)) (q_af (q_v 0) (q_af (q_v 1) q_anil)))) (q_one (q_for (q_r1 (He.free_ok I G (c.2.fact 17 (f := .free "range") rfl)) (q_ab q_int q_anil)) (q_gn 3 sc.nd) (q_one (q_ifs (q_tn (q_t (q_call (ok__law_right c I G) hr (He.glo_ok I G (c.2.fact 11 (f := .glo "_law_right") rfl)) (q_ab (q_v 2) q_anil)))) (q_one (q_ret q_bl)) q_nil)))))) (q_one (q_ret q_bl)))⟩
end
/-! ### the head -/
abbrev R : PySem.W.OpenRow := PySem.W.OpenLaw.row PySem.Challenge.rw_nestsums_k05_values_on_long_rows
abbrev hk : PySem.W.Hook := hookX 4 cs fa fn
def ob (s : PySem.W.SharedT) : AlX := obsXG 4 cs fa fn (HandSHeadRun.getT s)
theorem ob_eq (s : PySem.W.SharedT) : ob s = hk.obs s.abs := obsXG_eq (HandSHeadRun.getT_eq s)
theorem run (w : World) : HandSHeadRun.RunEq R (PySem.W.view R.prog [19]) hk ob 3000 ["NestError", "InvalidWord", "power_of", "is_word", "sum_on", "Formula", "word_formula", "_law_pool", "_law_draw", "_law_factor", "_law_letters", "_law_line", "_law_power", "_law_chosen", "_law_right"] w := by
  intro os
  kernel_rfl
end DV

set_option Elab.async false
set_option linter.all false
set_option maxRecDepth 100000
set_option maxHeartbeats 1000000
namespace DV
open PySem PySem.Spec PyProof.Rows L2
def plD (a b c : Int) : D := .lst [.int a, .int b, .int c]
/-- a pool after at most n draws without a script -/
def PoolOk (n : Nat) (d : D) : Prop := ∃ a b c : Int, d = plD a b c ∧ 0 ≤ a ∧ 0 ≤ b ∧ b < 2 ^ 63 ∧ 0 ≤ c ∧ c ≤ n
theorem PoolOk.mono {n m : Nat} {d : D} (h : PoolOk n d) (e : n ≤ m) : PoolOk m d := by
  obtain ⟨a, b, c, h1, h2, h3, h4, h5, h6⟩ := h
  exact ⟨a, b, c, h1, h2, h3, h4, h5, by omega⟩
theorem draw_ok {n : Nat} {d : D} {m : Int} (h : PoolOk n d) (hn : n < 2 ^ 60) (h0 : 0 < m) (hm : m < 2 ^ 64) (x : Option Nat) :
    ∃ r d', F__law_draw [.ow x d, .fz (.int m)] = some (.fz (.int r), [.ow none d', .fz (.int m)]) ∧ 0 ≤ r ∧ r < m ∧ PoolOk (n + 1) d' := by
  obtain ⟨a, b, c, rfl, h1, h2, h3, h4, h5⟩ := h
  have hm0 : m ≠ 0 := by omega
  have hl : m.natAbs.log2 < 9000 := Nat.lt_of_lt_of_le (PySem.Flt.log2_lt_of (k := 64) (by decide) (by omega)) (by decide)
  by_cases ha : 0 < a
  · refine ⟨a.fmod m, plD (a.fdiv m) b c, ?_, Int.fmod_nonneg_of_pos _ h0, Int.fmod_lt_of_pos _ h0, ⟨_, _, _, rfl, ?_, h2, h3, h4, by omega⟩⟩
    · simp [retL, gN, sNx, sSeq, sSet, sIf, sRet, sExpr, sPutL, fT, fOp2, fOp1, fCall, gets, fV, fC, fF, frz, Op.get, aNil, aB, aF, owd, L2.atI, L2.ixN, outL, inL, fCallF, callF, toLs, slotsOf, backL, dVals, fLst, fTup, vN, wipeR, backR, calmR, fMut, sPar, sFor, fLc, fRange1, fAnd, fOr, fNot, fB, sFldP, fMeth, fMethQ, fMake, fIterL, fIterT, fFld, ftYes, F__law_draw, fnS, S__law_draw, plD, ha, hm0, hl]
    · exact Int.fdiv_nonneg h1 (by omega)
  · have e1 : (b + 15485863 * (c + 1)).natAbs < 2 ^ 200 := by
      have : (b + 15485863 * (c + 1)).natAbs < 2 ^ 100 := by omega
      exact Nat.lt_of_lt_of_le this (by decide)
    generalize hv : ((b + 15485863 * (c + 1)) ^ 3).fmod 162259276829213363391578010288127 = v
    have v0 : 0 ≤ v := by rw [← hv]; exact Int.fmod_nonneg_of_pos _ (by decide)
    have v1 : v < 162259276829213363391578010288127 := by rw [← hv]; exact Int.fmod_lt_of_pos _ (by decide)
    have e2 : (v + 32452843 * (c + 1)).natAbs < 2 ^ 200 := by
      have : (v + 32452843 * (c + 1)).natAbs < 2 ^ 120 := by omega
      exact Nat.lt_of_lt_of_le this (by decide)
    have m1 : MulOk 15485863 (c + 1) := mulOk_small (by decide)
    have m2 : MulOk 32452843 (c + 1) := mulOk_small (by decide)
    have p1 := pow_ok e1
    have p2 := pow_ok e2
    generalize hw : ((v + 32452843 * (c + 1)) ^ 3).fmod 170141183460469231731687303715884105727 = u
    have dl : Nat.log2 1048576 < 9000 := by decide
    refine ⟨(u.fdiv 1048576).fmod m, plD a b (c + 1), ?_, Int.fmod_nonneg_of_pos _ h0, Int.fmod_lt_of_pos _ h0, ⟨_, _, _, rfl, h1, h2, h3, by omega, by omega⟩⟩
    simp [retL, gN, sNx, sSeq, sSet, sIf, sRet, sExpr, sPutL, fT, fOp2, fOp1, fCall, gets, fV, fC, fF, frz, Op.get, aNil, aB, aF, owd, L2.atI, L2.ixN, outL, inL, fCallF, callF, toLs, slotsOf, backL, dVals, fLst, fTup, vN, wipeR, backR, calmR, fMut, sPar, sFor, fLc, fRange1, fAnd, fOr, fNot, fB, sFldP, fMeth, fMethQ, fMake, fIterL, fIterT, fFld, ftYes, F__law_draw, fnS, S__law_draw, plD, ha, hm0, hl, m1, m2, p1, p2, hv, hw, dl]
abbrev dr0 (fe : FE) : FE := fCallF F__law_draw (aB (fV 0) (aF fe aNil))
theorem sz4 : 4 ≤ sizeLine := by decide
theorem letters_ok {n : Nat} {d : D} {L g : Int} (h : PoolOk n d) (hn : n < 2 ^ 50) (h0 : 0 ≤ L) (h1 : L ≤ 1000) (g0 : 0 ≤ g) (g1 : g < 2 ^ 60) (x : Option Nat) :
    ∃ (l : List Int) (d' : D), F__law_letters [.ow x d, .fz (.int L), .fz (.int g)] = some (.ow none (intsL l), [.ow none d', .fz (.int L), .fz (.int g)]) ∧ l.length ≤ L ∧ (∀ z ∈ l, 0 ≤ z ∧ (z ≤ g ∨ z ≤ 1)) ∧ PoolOk (n + 3000) d' := by
  obtain ⟨r0, d0, e0, b0, c0, p0⟩ := draw_ok h (by omega) (m := L + 1) (by omega) (by omega) none
  obtain ⟨l, ρ', q1, q2⟩ := lcL_run (vs := [3]) (g := vN 3) (ft := ftYes) (fe := fOp2 gIx (fLst (aF (fC (.int 0)) (aF (fC (.int 1)) (aF (dr0 (fOp2 gAdd (fV 2) (fC (.int 1)))) aNil)))) (dr0 (fC (.int 3))))
    (fun r acc ρ => ∃ (z : List Int) (k : Nat) (dd : D), acc = z.map .int ∧ z.length + r.length = r0.toNat ∧ (∀ w ∈ z, 0 ≤ w ∧ (w ≤ g ∨ w ≤ 1)) ∧ k + 2 * r.length ≤ n + 1 + 2 * r0.toNat ∧ PoolOk k dd ∧ ρ = [some (.ow (some 0) dd), some (.fz (.int L)), some (.fz (.int g)), none])
    (by
      rintro d r acc ρ ⟨z, k, dd, rfl, hz, hw, hk, hp, rfl⟩
      simp only [List.length_cons] at hz hk
      obtain ⟨r1, d1, e1, b1, c1, p1⟩ := draw_ok hp (by omega) (m := g + 1) (by omega) (by omega) none
      obtain ⟨r2, d2, e2, b2, c2, p2⟩ := draw_ok p1 (by omega) (m := 3) (by decide) (by decide) none
      have hv : ∃ v : Int, L2.atI [D.int 0, D.int 1, D.int r1] r2 = some (.int v) ∧ 0 ≤ v ∧ (v ≤ g ∨ v ≤ 1) := by
        have : r2 = 0 ∨ r2 = 1 ∨ r2 = 2 := by omega
        rcases this with rfl | rfl | rfl
        · exact ⟨0, rfl, by omega⟩
        · exact ⟨1, rfl, by omega⟩
        · exact ⟨r1, rfl, by omega⟩
      obtain ⟨v, v1, v2⟩ := hv
      refine ⟨_, true, _, rfl, rfl, fun _ => ⟨.int v, [some (.ow (some 0) d2), some (.fz (.int L)), some (.fz (.int g)), some (.fz d)], ?_, ?_, ⟨z ++ [v], k + 2, d2, by simp [retL, gN, sNx, sSeq, sSet, sIf, sRet, sExpr, sPutL, fT, fOp2, fOp1, fCall, gets, fV, fC, fF, frz, Op.get, aNil, aB, aF, owd, L2.atI, L2.ixN, outL, inL, fCallF, callF, toLs, slotsOf, backL, dVals, fLst, fTup, vN, wipeR, backR, calmR, fMut, sPar, sFor, fLc, fRange1, fAnd, fOr, fNot, fB, sFldP, fMeth, fMethQ, fMake, fIterL, fIterT, fFld, ftYes], by simp [retL, gN, sNx, sSeq, sSet, sIf, sRet, sExpr, sPutL, fT, fOp2, fOp1, fCall, gets, fV, fC, fF, frz, Op.get, aNil, aB, aF, owd, L2.atI, L2.ixN, outL, inL, fCallF, callF, toLs, slotsOf, backL, dVals, fLst, fTup, vN, wipeR, backR, calmR, fMut, sPar, sFor, fLc, fRange1, fAnd, fOr, fNot, fB, sFldP, fMeth, fMethQ, fMake, fIterL, fIterT, fFld, ftYes]; omega, ?_, by omega, p2, by simp [retL, gN, sNx, sSeq, sSet, sIf, sRet, sExpr, sPutL, fT, fOp2, fOp1, fCall, gets, fV, fC, fF, frz, Op.get, aNil, aB, aF, owd, L2.atI, L2.ixN, outL, inL, fCallF, callF, toLs, slotsOf, backL, dVals, fLst, fTup, vN, wipeR, backR, calmR, fMut, sPar, sFor, fLc, fRange1, fAnd, fOr, fNot, fB, sFldP, fMeth, fMethQ, fMake, fIterL, fIterT, fFld, ftYes]⟩⟩, fun h => by cases h⟩
      · have hz3 : 3 ≤ sizeLine := by decide
        simp [retL, gN, sNx, sSeq, sSet, sIf, sRet, sExpr, sPutL, fT, fOp2, fOp1, fCall, gets, fV, fC, fF, frz, Op.get, aNil, aB, aF, owd, L2.ixN, outL, inL, fCallF, callF, toLs, slotsOf, backL, dVals, fLst, fTup, vN, wipeR, backR, calmR, fMut, sPar, sFor, fLc, fRange1, fAnd, fOr, fNot, fB, sFldP, fMeth, fMethQ, fMake, fIterL, fIterT, fFld, ftYes, dr0, e1, e2, hz3, v1]
      · simp [retL, gN, sNx, sSeq, sSet, sIf, sRet, sExpr, sPutL, fT, fOp2, fOp1, fCall, gets, fV, fC, fF, frz, Op.get, aNil, aB, aF, owd, L2.atI, L2.ixN, outL, inL, fCallF, callF, toLs, slotsOf, backL, dVals, fLst, fTup, vN, wipeR, backR, calmR, fMut, sPar, sFor, fLc, fRange1, fAnd, fOr, fNot, fB, sFldP, fMeth, fMethQ, fMake, fIterL, fIterT, fFld, ftYes]; rw [sizeLine_eq]; omega
      · intro w hw'
        rcases List.mem_append.mp hw' with hw' | hw'
        · exact hw w hw'
        · rw [List.mem_singleton.mp hw']; exact v2)
    (rangeD 0 1 r0.toNat) [] [some (.ow (some 0) d0), some (.fz (.int L)), some (.fz (.int g)), none] ⟨[], n + 1, d0, rfl, by simp [retL, gN, sNx, sSeq, sSet, sIf, sRet, sExpr, sPutL, fT, fOp2, fOp1, fCall, gets, fV, fC, fF, frz, Op.get, aNil, aB, aF, owd, L2.atI, L2.ixN, outL, inL, fCallF, callF, toLs, slotsOf, backL, dVals, fLst, fTup, vN, wipeR, backR, calmR, fMut, sPar, sFor, fLc, fRange1, fAnd, fOr, fNot, fB, sFldP, fMeth, fMethQ, fMake, fIterL, fIterT, fFld, ftYes, rangeD_len], fun w hw => (by cases hw), by simp [retL, gN, sNx, sSeq, sSet, sIf, sRet, sExpr, sPutL, fT, fOp2, fOp1, fCall, gets, fV, fC, fF, frz, Op.get, aNil, aB, aF, owd, L2.atI, L2.ixN, outL, inL, fCallF, callF, toLs, slotsOf, backL, dVals, fLst, fTup, vN, wipeR, backR, calmR, fMut, sPar, sFor, fLc, fRange1, fAnd, fOr, fNot, fB, sFldP, fMeth, fMethQ, fMake, fIterL, fIterT, fFld, ftYes, rangeD_len], p0, rfl⟩
  obtain ⟨z, k, dd, rfl, hz, hw, hk, hp, rfl⟩ := q2
  refine ⟨z, dd, ?_, by simp at hz; omega, hw, hp.mono (by simp at hk; omega)⟩
  have hr : rangeOk 0 r0 = true := by simp [retL, gN, sNx, sSeq, sSet, sIf, sRet, sExpr, sPutL, fT, fOp2, fOp1, fCall, gets, fV, fC, fF, frz, Op.get, aNil, aB, aF, owd, L2.atI, L2.ixN, outL, inL, fCallF, callF, toLs, slotsOf, backL, dVals, fLst, fTup, vN, wipeR, backR, calmR, fMut, sPar, sFor, fLc, fRange1, fAnd, fOr, fNot, fB, sFldP, fMeth, fMethQ, fMake, fIterL, fIterT, fFld, ftYes, rangeOk]; omega
  simp [retL, gN, sNx, sSeq, sSet, sIf, sRet, sExpr, sPutL, fT, fOp2, fOp1, fCall, gets, fV, fC, fF, frz, Op.get, aNil, aB, aF, owd, L2.atI, L2.ixN, outL, inL, fCallF, callF, toLs, slotsOf, backL, dVals, fLst, fTup, vN, wipeR, backR, calmR, fMut, sPar, sFor, fLc, fRange1, fAnd, fOr, fNot, fB, sFldP, fMeth, fMethQ, fMake, fIterL, fIterT, fFld, ftYes, F__law_letters, fnS, S__law_letters, e0, hr, intsL]
  rw [q1]
  simp [retL, gN, sNx, sSeq, sSet, sIf, sRet, sExpr, sPutL, fT, fOp2, fOp1, fCall, gets, fV, fC, fF, frz, Op.get, aNil, aB, aF, owd, L2.atI, L2.ixN, outL, inL, fCallF, callF, toLs, slotsOf, backL, dVals, fLst, fTup, vN, wipeR, backR, calmR, fMut, sPar, sFor, fLc, fRange1, fAnd, fOr, fNot, fB, sFldP, fMeth, fMethQ, fMake, fIterL, fIterT, fFld, ftYes]
theorem factor_ok {n : Nat} {d : D} (h : PoolOk n d) (hn : n < 2 ^ 50) (x : Option Nat) : ∃ (s : Int) (d' : D), F__law_factor [.ow x d] = some (.fz (.int s), [.ow none d']) ∧ -99 ≤ s ∧ s ≤ 99 ∧ PoolOk (n + 4) d' := by
  obtain ⟨r1, d1, e1, b1, c1, p1⟩ := draw_ok h (by omega) (m := 4) (by decide) (by decide) none
  obtain ⟨r2, d2, e2, b2, c2, p2⟩ := draw_ok p1 (by omega) (m := 99) (by decide) (by decide) none
  obtain ⟨r3, d3, e3, b3, c3, p3⟩ := draw_ok p2 (by omega) (m := 4) (by decide) (by decide) none
  obtain ⟨r4, d4, e4, b4, c4, p4⟩ := draw_ok p3 (by omega) (m := 2) (by decide) (by decide) none
  have hv : ∃ v : Int, L2.atI [D.int 1, D.int 1, D.int (1 + r1), D.int (1 + r2)] r3 = some (.int v) ∧ 0 ≤ v ∧ v ≤ 99 := by
    have : r3 = 0 ∨ r3 = 1 ∨ r3 = 2 ∨ r3 = 3 := by omega
    rcases this with rfl | rfl | rfl | rfl
    · exact ⟨1, rfl, by omega⟩
    · exact ⟨1, rfl, by omega⟩
    · exact ⟨1 + r1, rfl, by omega⟩
    · exact ⟨1 + r2, rfl, by omega⟩
  obtain ⟨v, v1, v2⟩ := hv
  have m1 : MulOk 2 r4 := mulOk_small (by decide)
  have m2 : MulOk v (1 - 2 * r4) := mulOk_small (by omega)
  refine ⟨v * (1 - 2 * r4), d4, ?_, ?_, ?_, p4⟩
  · simp [retL, gN, sNx, sSeq, sSet, sIf, sRet, sExpr, sPutL, fT, fOp2, fOp1, fCall, gets, fV, fC, fF, frz, Op.get, aNil, aB, aF, owd, L2.ixN, outL, inL, fCallF, callF, toLs, slotsOf, backL, dVals, fLst, fTup, vN, wipeR, backR, calmR, fMut, sPar, sFor, fLc, fRange1, fAnd, fOr, fNot, fB, sFldP, fMeth, fMethQ, fMake, fIterL, fIterT, fFld, ftYes, F__law_factor, fnS, S__law_factor, e1, e2, e3, e4, sz4, m1, m2, v1]
  · have : r4 = 0 ∨ r4 = 1 := by omega
    rcases this with rfl | rfl <;> omega
  · have : r4 = 0 ∨ r4 = 1 := by omega
    rcases this with rfl | rfl <;> omega
def termD (t : Int × List Int) : D := .tup [.int t.1, intsL t.2]
theorem termD_mk {s : Int} {l : List Int} : D.tup [.int s, intsL l] = termD (s, l) := rfl
theorem gIx_term1 {t : Int × List Int} : gIx (termD t) (.int 1) = some (.val (intsL t.2)) := rfl
theorem gIx_term0 {t : Int × List Int} : gIx (termD t) (.int 0) = some (.val (.int t.1)) := rfl
theorem gList_ints {l : List Int} : gList [intsL l] = some (.own (intsL l)) := rfl
theorem good_term {t : Int × List Int} : Good 2 (termD t) := .tup fun d hd => by
  rcases List.mem_cons.mp hd with rfl | hd
  · exact .int
  · rw [List.mem_singleton.mp hd]; exact .intsL
theorem good_lot {z : List (Int × List Int)} : Good 3 (.lst (z.map termD)) := .lst fun d hd => by
  obtain ⟨t, _, rfl⟩ := List.mem_map.mp hd
  exact good_term
theorem line_ok {n : Nat} {d : D} {L G : Int} (h : PoolOk n d) (hn : n < 2 ^ 50) (h0 : 0 ≤ L) (h1 : L ≤ 1000) (g0 : 4 ≤ G) (g1 : G < 2 ^ 60) (x : Option Nat) :
    ∃ (l : List Int) (d' : D), F__law_line [.ow x d, .fz (.int L), .fz (.int G)] = some (.ow none (intsL l), [.ow none d', .fz (.int L), .fz (.int G)]) ∧ l.length ≤ L ∧ (∀ z ∈ l, -G ≤ z ∧ z ≤ G) ∧ PoolOk (n + 4000) d' := by
  obtain ⟨r0, d0, e0, b0, c0, p0⟩ := draw_ok h (by omega) (m := L + 1) (by omega) (by omega) none
  obtain ⟨ρ', q1, q2⟩ := forL_run (g := vN 4) (body := (sExpr (fMut "list" 3 gAppend (aF (fOp2 gIx (fLst (aF (fC (.int 0)) (aF (fC (.int 1)) (aF (fOp2 DV.gSub (fCallF F__law_draw (aB (fV 0) (aF (fC (.int 9)) aNil))) (fC (.int 4))) (aF (fOp2 DV.gSub (fCallF F__law_draw (aB (fV 0) (aF (fOp2 gAdd (fOp2 gMul (fC (.int 2)) (fV 2)) (fC (.int 1))) aNil))) (fV 2)) aNil))))) (fCallF F__law_draw (aB (fV 0) (aF (fC (.int 4)) aNil)))) aNil))))
    (fun r ρ => ∃ (z : List Int) (k : Nat) (dd : D) (y4 : Option DV.L), z.length + r.length = r0.toNat ∧ (∀ w ∈ z, -G ≤ w ∧ w ≤ G) ∧ k + 3 * r.length ≤ n + 1 + 3 * r0.toNat ∧ PoolOk k dd ∧ ρ = [some (.ow (some 0) dd), some (.fz (.int L)), some (.fz (.int G)), some (.ow none (intsL z)), y4])
    (by
      rintro d r ρ ⟨z, k, dd, y4, hz, hw, hk, hp, rfl⟩
      simp only [List.length_cons] at hz hk
      obtain ⟨r1, d1, e1, b1, c1, p1⟩ := draw_ok hp (by omega) (m := 9) (by decide) (by decide) none
      obtain ⟨r2, d2, e2, b2, c2, p2⟩ := draw_ok p1 (by omega) (m := 2 * G + 1) (by omega) (by omega) none
      obtain ⟨r3, d3, e3, b3, c3, p3⟩ := draw_ok p2 (by omega) (m := 4) (by decide) (by decide) none
      have hv : ∃ v : Int, L2.atI [D.int 0, D.int 1, D.int (r1 - 4), D.int (r2 - G)] r3 = some (.int v) ∧ -G ≤ v ∧ v ≤ G := by
        have : r3 = 0 ∨ r3 = 1 ∨ r3 = 2 ∨ r3 = 3 := by omega
        rcases this with rfl | rfl | rfl | rfl
        · exact ⟨0, rfl, by omega⟩
        · exact ⟨1, rfl, by omega⟩
        · exact ⟨r1 - 4, rfl, by omega⟩
        · exact ⟨r2 - G, rfl, by omega⟩
      obtain ⟨v, v1, v2⟩ := hv
      have m1 : MulOk 2 G := mulOk_small (by decide)
      have hl2 : z.length < sizeLine := by rw [sizeLine_eq]; omega
      refine ⟨_, [some (.ow (some 0) d3), some (.fz (.int L)), some (.fz (.int G)), some (.ow none (intsL (z ++ [v]))), some (.fz d)], rfl, .inl ?_, ⟨z ++ [v], k + 3, d3, _, by simp [retL, gN, sNx, sSeq, sSet, sIf, sRet, sExpr, sPutL, fT, fOp2, fOp1, fCall, gets, fV, fC, fF, frz, Op.get, aNil, aB, aF, owd, L2.atI, L2.ixN, outL, inL, fCallF, callF, toLs, slotsOf, backL, dVals, fLst, fTup, vN, wipeR, backR, calmR, fMut, sPar, sFor, fLc, fRange1, fAnd, fOr, fNot, fB, sFldP, fMeth, fMethQ, fMake, fIterL, fIterT, fFld, ftYes]; omega, ?_, by omega, p3, rfl⟩⟩
      · simp [retL, gN, sNx, sSeq, sSet, sIf, sRet, sExpr, sPutL, fT, fOp2, fOp1, fCall, gets, fV, fC, fF, frz, Op.get, aNil, aB, aF, owd, L2.ixN, outL, inL, fCallF, callF, toLs, slotsOf, backL, dVals, fLst, fTup, vN, wipeR, backR, calmR, fMut, sPar, sFor, fLc, fRange1, fAnd, fOr, fNot, fB, sFldP, fMeth, fMethQ, fMake, fIterL, fIterT, fFld, ftYes, e1, e2, e3, m1, hl2, v1, sz4, intsL]
      · intro w hw'
        rcases List.mem_append.mp hw' with hw' | hw'
        · exact hw w hw'
        · rw [List.mem_singleton.mp hw']; exact v2)
    (rangeD 0 1 r0.toNat) [some (.ow (some 0) d0), some (.fz (.int L)), some (.fz (.int G)), some (.ow none (.lst [])), none] ⟨[], n + 1, d0, none, by simp [retL, gN, sNx, sSeq, sSet, sIf, sRet, sExpr, sPutL, fT, fOp2, fOp1, fCall, gets, fV, fC, fF, frz, Op.get, aNil, aB, aF, owd, L2.atI, L2.ixN, outL, inL, fCallF, callF, toLs, slotsOf, backL, dVals, fLst, fTup, vN, wipeR, backR, calmR, fMut, sPar, sFor, fLc, fRange1, fAnd, fOr, fNot, fB, sFldP, fMeth, fMethQ, fMake, fIterL, fIterT, fFld, ftYes, rangeD_len], fun w hw => (by cases hw), by simp [retL, gN, sNx, sSeq, sSet, sIf, sRet, sExpr, sPutL, fT, fOp2, fOp1, fCall, gets, fV, fC, fF, frz, Op.get, aNil, aB, aF, owd, L2.atI, L2.ixN, outL, inL, fCallF, callF, toLs, slotsOf, backL, dVals, fLst, fTup, vN, wipeR, backR, calmR, fMut, sPar, sFor, fLc, fRange1, fAnd, fOr, fNot, fB, sFldP, fMeth, fMethQ, fMake, fIterL, fIterT, fFld, ftYes, rangeD_len], p0, rfl⟩
  obtain ⟨z, k, dd, y4, hz, hw, hk, hp, rfl⟩ := q2
  refine ⟨z, dd, ?_, by simp at hz; omega, hw, hp.mono (by simp at hk; omega)⟩
  have hr : rangeOk 0 r0 = true := by simp [retL, gN, sNx, sSeq, sSet, sIf, sRet, sExpr, sPutL, fT, fOp2, fOp1, fCall, gets, fV, fC, fF, frz, Op.get, aNil, aB, aF, owd, L2.atI, L2.ixN, outL, inL, fCallF, callF, toLs, slotsOf, backL, dVals, fLst, fTup, vN, wipeR, backR, calmR, fMut, sPar, sFor, fLc, fRange1, fAnd, fOr, fNot, fB, sFldP, fMeth, fMethQ, fMake, fIterL, fIterT, fFld, ftYes, rangeOk]; omega
  simp [retL, gN, sNx, sSeq, sSet, sIf, sRet, sExpr, sPutL, fT, fOp2, fOp1, fCall, gets, fV, fC, fF, frz, Op.get, aNil, aB, aF, owd, L2.atI, L2.ixN, outL, inL, fCallF, callF, toLs, slotsOf, backL, dVals, fLst, fTup, vN, wipeR, backR, calmR, fMut, sPar, sFor, fLc, fRange1, fAnd, fOr, fNot, fB, sFldP, fMeth, fMethQ, fMake, fIterL, fIterT, fFld, ftYes, F__law_line, fnS, S__law_line, e0, hr]
  rw [q1]
  simp [retL, gN, sNx, sSeq, sSet, sIf, sRet, sExpr, sPutL, fT, fOp2, fOp1, fCall, gets, fV, fC, fF, frz, Op.get, aNil, aB, aF, owd, L2.atI, L2.ixN, outL, inL, fCallF, callF, toLs, slotsOf, backL, dVals, fLst, fTup, vN, wipeR, backR, calmR, fMut, sPar, sFor, fLc, fRange1, fAnd, fOr, fNot, fB, sFldP, fMeth, fMethQ, fMake, fIterL, fIterT, fFld, ftYes]
/-! ### powers -/
theorem pow_bound {a B : Int} (hB : 1 ≤ B) (h : -B ≤ a ∧ a ≤ B) : ∀ k : Nat, -(B ^ k) ≤ a ^ k ∧ a ^ k ≤ B ^ k
  | 0 => by simp [retL, gN, sNx, sSeq, sSet, sIf, sRet, sExpr, sPutL, fT, fOp2, fOp1, fCall, gets, fV, fC, fF, frz, Op.get, aNil, aB, aF, owd, L2.atI, L2.ixN, outL, inL, fCallF, callF, toLs, slotsOf, backL, dVals, fLst, fTup, vN, wipeR, backR, calmR, fMut, sPar, sFor, fLc, fRange1, fAnd, fOr, fNot, fB, sFldP, fMeth, fMethQ, fMake, fIterL, fIterT, fFld, ftYes]
  | k + 1 => by
    obtain ⟨h1, h2⟩ := pow_bound hB h k
    have hp : (0 : Int) ≤ B ^ k := Int.le_of_lt (Int.pow_pos (by omega))
    rw [Int.pow_succ, Int.pow_succ]
    have hab : (a ^ k).natAbs ≤ (B ^ k).natAbs := by omega
    have hab2 : a.natAbs ≤ B.natAbs := by omega
    have := Nat.mul_le_mul hab hab2
    rw [← Int.natAbs_mul, ← Int.natAbs_mul] at this
    have hp2 : (0 : Int) ≤ B ^ k * B := Int.mul_nonneg hp (by omega)
    omega
theorem power_ok {a k : Int} (ha : -(2 ^ 60) ≤ a ∧ a ≤ 2 ^ 60) (h0 : 0 ≤ k) (h1 : k < 2 ^ 60) : F__law_power [.fz (.int a), .fz (.int k)] = some (.fz (.int (a ^ k.toNat)), [.fz (.int a), .fz (.int k)]) := by
  obtain ⟨ρ', q1, q2⟩ := forL_run (g := vN 3) (body := (sSet 2 (fOp2 gMul (fV 2) (fV 0))))
    (fun r ρ => ∃ (j : Nat) (y : Option DV.L), j + r.length = k.toNat ∧ ρ = [some (.fz (.int a)), some (.fz (.int k)), some (.fz (.int (a ^ j))), y])
    (by
      rintro d r ρ ⟨j, y, hj, rfl⟩
      have m1 : MulOk (a ^ j) a := mulOk_small2 (by omega)
      refine ⟨_, [some (.fz (.int a)), some (.fz (.int k)), some (.fz (.int (a ^ (j + 1)))), some (.fz d)], rfl, .inl ?_, ⟨j + 1, _, by simp at hj; omega, rfl⟩⟩
      simp [retL, gN, sNx, sSeq, sSet, sIf, sRet, sExpr, sPutL, fT, fOp2, fOp1, fCall, gets, fV, fC, fF, frz, Op.get, aNil, aB, aF, owd, L2.atI, L2.ixN, outL, inL, fCallF, callF, toLs, slotsOf, backL, dVals, fLst, fTup, vN, wipeR, backR, calmR, fMut, sPar, sFor, fLc, fRange1, fAnd, fOr, fNot, fB, sFldP, fMeth, fMethQ, fMake, fIterL, fIterT, fFld, ftYes, m1, Int.pow_succ])
    (rangeD 0 1 k.toNat) [some (.fz (.int a)), some (.fz (.int k)), some (.fz (.int 1)), none] ⟨0, none, by simp [retL, gN, sNx, sSeq, sSet, sIf, sRet, sExpr, sPutL, fT, fOp2, fOp1, fCall, gets, fV, fC, fF, frz, Op.get, aNil, aB, aF, owd, L2.atI, L2.ixN, outL, inL, fCallF, callF, toLs, slotsOf, backL, dVals, fLst, fTup, vN, wipeR, backR, calmR, fMut, sPar, sFor, fLc, fRange1, fAnd, fOr, fNot, fB, sFldP, fMeth, fMethQ, fMake, fIterL, fIterT, fFld, ftYes, rangeD_len], by simp [retL, gN, sNx, sSeq, sSet, sIf, sRet, sExpr, sPutL, fT, fOp2, fOp1, fCall, gets, fV, fC, fF, frz, Op.get, aNil, aB, aF, owd, L2.atI, L2.ixN, outL, inL, fCallF, callF, toLs, slotsOf, backL, dVals, fLst, fTup, vN, wipeR, backR, calmR, fMut, sPar, sFor, fLc, fRange1, fAnd, fOr, fNot, fB, sFldP, fMeth, fMethQ, fMake, fIterL, fIterT, fFld, ftYes]⟩
  obtain ⟨j, y, hj, rfl⟩ := q2
  have hr : rangeOk 0 k = true := by simp [retL, gN, sNx, sSeq, sSet, sIf, sRet, sExpr, sPutL, fT, fOp2, fOp1, fCall, gets, fV, fC, fF, frz, Op.get, aNil, aB, aF, owd, L2.atI, L2.ixN, outL, inL, fCallF, callF, toLs, slotsOf, backL, dVals, fLst, fTup, vN, wipeR, backR, calmR, fMut, sPar, sFor, fLc, fRange1, fAnd, fOr, fNot, fB, sFldP, fMeth, fMethQ, fMake, fIterL, fIterT, fFld, ftYes, rangeOk]; omega
  simp [retL, gN, sNx, sSeq, sSet, sIf, sRet, sExpr, sPutL, fT, fOp2, fOp1, fCall, gets, fV, fC, fF, frz, Op.get, aNil, aB, aF, owd, L2.atI, L2.ixN, outL, inL, fCallF, callF, toLs, slotsOf, backL, dVals, fLst, fTup, vN, wipeR, backR, calmR, fMut, sPar, sFor, fLc, fRange1, fAnd, fOr, fNot, fB, sFldP, fMeth, fMethQ, fMake, fIterL, fIterT, fFld, ftYes, F__law_power, fnS, S__law_power, hr]
  rw [q1]
  simp at hj
  simp [retL, gN, sNx, sSeq, sSet, sIf, sRet, sExpr, sPutL, fT, fOp2, fOp1, fCall, gets, fV, fC, fF, frz, Op.get, aNil, aB, aF, owd, L2.atI, L2.ixN, outL, inL, fCallF, callF, toLs, slotsOf, backL, dVals, fLst, fTup, vN, wipeR, backR, calmR, fMut, sPar, sFor, fLc, fRange1, fAnd, fOr, fNot, fB, sFldP, fMeth, fMethQ, fMake, fIterL, fIterT, fFld, ftYes, hj]
theorem power_of_ok {a k : Int} (ha : -(2 ^ 60) ≤ a ∧ a ≤ 2 ^ 60) (h0 : 0 ≤ k) (h1 : k < 2 ^ 60) : F_power_of [.fz (.int a), .fz (.int k)] = some (.fz (.int (a ^ k.toNat)), [.fz (.int a), .fz (.int k)]) := by
  obtain ⟨ρ', q1, q2⟩ := forL_run (g := vN 3) (body := (sAugN 2 gIMul (fV 0)))
    (fun r ρ => ∃ (j : Nat) (y : Option DV.L), j + r.length = k.toNat ∧ ρ = [some (.fz (.int a)), some (.fz (.int k)), some (.fz (.int (a ^ j))), y])
    (by
      rintro d r ρ ⟨j, y, hj, rfl⟩
      have m1 : MulOk (a ^ j) a := mulOk_small2 (by omega)
      refine ⟨_, [some (.fz (.int a)), some (.fz (.int k)), some (.fz (.int (a ^ (j + 1)))), some (.fz d)], rfl, .inl ?_, ⟨j + 1, _, by simp at hj; omega, rfl⟩⟩
      simp [retL, gN, sNx, sSeq, sSet, sIf, sRet, sExpr, sPutL, fT, fOp2, fOp1, fCall, gets, fV, fC, fF, frz, Op.get, aNil, aB, aF, owd, L2.atI, L2.ixN, outL, inL, fCallF, callF, toLs, slotsOf, backL, dVals, fLst, fTup, vN, wipeR, backR, calmR, fMut, sPar, sFor, fLc, fRange1, fAnd, fOr, fNot, fB, sFldP, fMeth, fMethQ, fMake, fIterL, fIterT, fFld, ftYes, sAugN, intAt, intD, gIMul, m1, Int.pow_succ])
    (rangeD 0 1 k.toNat) [some (.fz (.int a)), some (.fz (.int k)), some (.fz (.int 1)), none] ⟨0, none, by simp [retL, gN, sNx, sSeq, sSet, sIf, sRet, sExpr, sPutL, fT, fOp2, fOp1, fCall, gets, fV, fC, fF, frz, Op.get, aNil, aB, aF, owd, L2.atI, L2.ixN, outL, inL, fCallF, callF, toLs, slotsOf, backL, dVals, fLst, fTup, vN, wipeR, backR, calmR, fMut, sPar, sFor, fLc, fRange1, fAnd, fOr, fNot, fB, sFldP, fMeth, fMethQ, fMake, fIterL, fIterT, fFld, ftYes, rangeD_len], by simp [retL, gN, sNx, sSeq, sSet, sIf, sRet, sExpr, sPutL, fT, fOp2, fOp1, fCall, gets, fV, fC, fF, frz, Op.get, aNil, aB, aF, owd, L2.atI, L2.ixN, outL, inL, fCallF, callF, toLs, slotsOf, backL, dVals, fLst, fTup, vN, wipeR, backR, calmR, fMut, sPar, sFor, fLc, fRange1, fAnd, fOr, fNot, fB, sFldP, fMeth, fMethQ, fMake, fIterL, fIterT, fFld, ftYes]⟩
  obtain ⟨j, y, hj, rfl⟩ := q2
  have hr : rangeOk 0 k = true := by simp [retL, gN, sNx, sSeq, sSet, sIf, sRet, sExpr, sPutL, fT, fOp2, fOp1, fCall, gets, fV, fC, fF, frz, Op.get, aNil, aB, aF, owd, L2.atI, L2.ixN, outL, inL, fCallF, callF, toLs, slotsOf, backL, dVals, fLst, fTup, vN, wipeR, backR, calmR, fMut, sPar, sFor, fLc, fRange1, fAnd, fOr, fNot, fB, sFldP, fMeth, fMethQ, fMake, fIterL, fIterT, fFld, ftYes, rangeOk]; omega
  simp [retL, gN, sNx, sSeq, sSet, sIf, sRet, sExpr, sPutL, fT, fOp2, fOp1, fCall, gets, fV, fC, fF, frz, Op.get, aNil, aB, aF, owd, L2.atI, L2.ixN, outL, inL, fCallF, callF, toLs, slotsOf, backL, dVals, fLst, fTup, vN, wipeR, backR, calmR, fMut, sPar, sFor, fLc, fRange1, fAnd, fOr, fNot, fB, sFldP, fMeth, fMethQ, fMake, fIterL, fIterT, fFld, ftYes, F_power_of, fnS, S_power_of, hr]
  rw [q1]
  simp at hj
  simp [retL, gN, sNx, sSeq, sSet, sIf, sRet, sExpr, sPutL, fT, fOp2, fOp1, fCall, gets, fV, fC, fF, frz, Op.get, aNil, aB, aF, owd, L2.atI, L2.ixN, outL, inL, fCallF, callF, toLs, slotsOf, backL, dVals, fLst, fTup, vN, wipeR, backR, calmR, fMut, sPar, sFor, fLc, fRange1, fAnd, fOr, fNot, fB, sFldP, fMeth, fMethQ, fMake, fIterL, fIterT, fFld, ftYes, hj]
end DV

set_option Elab.async false
set_option linter.all false
set_option maxRecDepth 100000
set_option maxHeartbeats 1000000
set_option exponentiation.threshold 2000
namespace DV
open PySem PySem.Spec PyProof.Rows L2
/-! ### the plain law: sums over all choices -/
def Sm : List Int → List Int → Int
  | [], _ => 1
  | _ :: _, [] => 0
  | a :: l, x :: r => x ^ a.toNat * Sm l r + Sm (a :: l) r
theorem Sm_nil (r : List Int) : Sm [] r = 1 := by cases r <;> simp [retL, gN, sNx, sSeq, sSet, sIf, sRet, sExpr, sPutL, fT, fOp2, fOp1, fCall, gets, fV, fC, fF, frz, Op.get, aNil, aB, aF, owd, L2.atI, L2.ixN, outL, inL, fCallF, callF, toLs, slotsOf, backL, dVals, fLst, fTup, vN, wipeR, backR, calmR, fMut, sPar, sFor, fLc, fRange1, fAnd, fOr, fNot, fB, sFldP, fMeth, fMethQ, fMake, fIterL, fIterT, fFld, ftYes, Sm]
theorem Sm_short : ∀ {l r : List Int}, r.length < l.length → Sm l r = 0
  | [], _, h => by simp at h
  | _ :: _, [], _ => by simp [retL, gN, sNx, sSeq, sSet, sIf, sRet, sExpr, sPutL, fT, fOp2, fOp1, fCall, gets, fV, fC, fF, frz, Op.get, aNil, aB, aF, owd, L2.atI, L2.ixN, outL, inL, fCallF, callF, toLs, slotsOf, backL, dVals, fLst, fTup, vN, wipeR, backR, calmR, fMut, sPar, sFor, fLc, fRange1, fAnd, fOr, fNot, fB, sFldP, fMeth, fMethQ, fMake, fIterL, fIterT, fFld, ftYes, Sm]
  | a :: l, x :: r, h => by
    simp only [List.length_cons] at h
    rw [Sm, Sm_short (l := l) (r := r) (by omega), Sm_short (l := a :: l) (r := r) (by simp [retL, gN, sNx, sSeq, sSet, sIf, sRet, sExpr, sPutL, fT, fOp2, fOp1, fCall, gets, fV, fC, fF, frz, Op.get, aNil, aB, aF, owd, L2.atI, L2.ixN, outL, inL, fCallF, callF, toLs, slotsOf, backL, dVals, fLst, fTup, vN, wipeR, backR, calmR, fMut, sPar, sFor, fLc, fRange1, fAnd, fOr, fNot, fB, sFldP, fMeth, fMethQ, fMake, fIterL, fIterT, fFld, ftYes]; omega)]
    simp [retL, gN, sNx, sSeq, sSet, sIf, sRet, sExpr, sPutL, fT, fOp2, fOp1, fCall, gets, fV, fC, fF, frz, Op.get, aNil, aB, aF, owd, L2.atI, L2.ixN, outL, inL, fCallF, callF, toLs, slotsOf, backL, dVals, fLst, fTup, vN, wipeR, backR, calmR, fMut, sPar, sFor, fLc, fRange1, fAnd, fOr, fNot, fB, sFldP, fMeth, fMethQ, fMake, fIterL, fIterT, fFld, ftYes]
theorem Sm_snoc (a x : Int) : ∀ (m p : List Int), Sm (m ++ [a]) (p ++ [x]) = Sm (m ++ [a]) p + Sm m p * x ^ a.toNat
  | [], [] => by simp [retL, gN, sNx, sSeq, sSet, sIf, sRet, sExpr, sPutL, fT, fOp2, fOp1, fCall, gets, fV, fC, fF, frz, Op.get, aNil, aB, aF, owd, L2.atI, L2.ixN, outL, inL, fCallF, callF, toLs, slotsOf, backL, dVals, fLst, fTup, vN, wipeR, backR, calmR, fMut, sPar, sFor, fLc, fRange1, fAnd, fOr, fNot, fB, sFldP, fMeth, fMethQ, fMake, fIterL, fIterT, fFld, ftYes, Sm]
  | b :: m, [] => by
    have : Sm (m ++ [a]) [] = 0 := Sm_short (by simp [retL, gN, sNx, sSeq, sSet, sIf, sRet, sExpr, sPutL, fT, fOp2, fOp1, fCall, gets, fV, fC, fF, frz, Op.get, aNil, aB, aF, owd, L2.atI, L2.ixN, outL, inL, fCallF, callF, toLs, slotsOf, backL, dVals, fLst, fTup, vN, wipeR, backR, calmR, fMut, sPar, sFor, fLc, fRange1, fAnd, fOr, fNot, fB, sFldP, fMeth, fMethQ, fMake, fIterL, fIterT, fFld, ftYes])
    simp [retL, gN, sNx, sSeq, sSet, sIf, sRet, sExpr, sPutL, fT, fOp2, fOp1, fCall, gets, fV, fC, fF, frz, Op.get, aNil, aB, aF, owd, L2.atI, L2.ixN, outL, inL, fCallF, callF, toLs, slotsOf, backL, dVals, fLst, fTup, vN, wipeR, backR, calmR, fMut, sPar, sFor, fLc, fRange1, fAnd, fOr, fNot, fB, sFldP, fMeth, fMethQ, fMake, fIterL, fIterT, fFld, ftYes, Sm, this]
  | [], y :: p => by
    have h := Sm_snoc a x [] p
    simp only [List.nil_append, List.cons_append, Sm, Sm_nil] at h ⊢
    rw [h]; simp [retL, gN, sNx, sSeq, sSet, sIf, sRet, sExpr, sPutL, fT, fOp2, fOp1, fCall, gets, fV, fC, fF, frz, Op.get, aNil, aB, aF, owd, L2.atI, L2.ixN, outL, inL, fCallF, callF, toLs, slotsOf, backL, dVals, fLst, fTup, vN, wipeR, backR, calmR, fMut, sPar, sFor, fLc, fRange1, fAnd, fOr, fNot, fB, sFldP, fMeth, fMethQ, fMake, fIterL, fIterT, fFld, ftYes, Int.add_assoc]
  | b :: m, y :: p => by
    have h1 := Sm_snoc a x m p
    have h2 := Sm_snoc a x (b :: m) p
    simp only [List.cons_append, Sm] at h2 ⊢
    rw [h1, h2]
    simp only [Int.mul_add, Int.add_mul, Int.mul_assoc]
    omega
theorem Sm_bound {M : Nat} (hM : 1 ≤ M) : ∀ {l r : List Int}, (∀ a ∈ l, ∀ x ∈ r, (x ^ a.toNat).natAbs ≤ M) → (Sm l r).natAbs ≤ 2 ^ r.length * M ^ l.length
  | [], r, _ => by
    rw [Sm_nil]
    have : 1 ≤ 2 ^ r.length * M ^ ([] : List Int).length := by
      have := Nat.one_le_two_pow (n := r.length)
      simpa using this
    simpa using this
  | _ :: _, [], _ => by simp [retL, gN, sNx, sSeq, sSet, sIf, sRet, sExpr, sPutL, fT, fOp2, fOp1, fCall, gets, fV, fC, fF, frz, Op.get, aNil, aB, aF, owd, L2.atI, L2.ixN, outL, inL, fCallF, callF, toLs, slotsOf, backL, dVals, fLst, fTup, vN, wipeR, backR, calmR, fMut, sPar, sFor, fLc, fRange1, fAnd, fOr, fNot, fB, sFldP, fMeth, fMethQ, fMake, fIterL, fIterT, fFld, ftYes, Sm]
  | a :: l, x :: r, h => by
    have h1 := Sm_bound hM (l := l) (r := r) fun a ha x hx => h a (List.mem_cons_of_mem _ ha) x (List.mem_cons_of_mem _ hx)
    have h2 := Sm_bound hM (l := a :: l) (r := r) fun a ha x hx => h a ha x (List.mem_cons_of_mem _ hx)
    have h3 := h a (List.mem_cons_self ..) x (List.mem_cons_self ..)
    rw [Sm]
    have e1 : (x ^ a.toNat * Sm l r + Sm (a :: l) r).natAbs ≤ (x ^ a.toNat).natAbs * (Sm l r).natAbs + (Sm (a :: l) r).natAbs := by
      rw [← Int.natAbs_mul]; exact Int.natAbs_add_le _ _
    have e2 := Nat.mul_le_mul h3 h1
    simp only [List.length_cons] at h2 ⊢
    have e3 : 2 ^ (r.length + 1) * M ^ (l.length + 1) = M * (2 ^ r.length * M ^ l.length) + 2 ^ r.length * M ^ (l.length + 1) := by
      rw [Nat.pow_succ, Nat.pow_succ]
      have : M * (2 ^ r.length * M ^ l.length) = 2 ^ r.length * (M ^ l.length * M) := by
        rw [Nat.mul_left_comm, Nat.mul_comm M]
      rw [this, Nat.mul_assoc, Nat.two_mul, Nat.mul_add]
    omega
/-- numbers of k04's sizes -/
def WOk (l : List Int) : Prop := l.length ≤ 5 ∧ ∀ a ∈ l, 0 ≤ a ∧ a ≤ 4
def ROk (r : List Int) : Prop := r.length ≤ 40 ∧ ∀ x ∈ r, -(10 ^ 6) ≤ x ∧ x ≤ 10 ^ 6
theorem pow_sz {a x : Int} (ha : 0 ≤ a ∧ a ≤ 4) (hx : -(10 ^ 6) ≤ x ∧ x ≤ 10 ^ 6) : (x ^ a.toNat).natAbs ≤ 10 ^ 24 := by
  have h := pow_bound (B := 10 ^ 6) (by decide) hx a.toNat
  have h2 : ((10 : Int) ^ 6) ^ a.toNat ≤ 10 ^ 24 := by
    have : a.toNat = 0 ∨ a.toNat = 1 ∨ a.toNat = 2 ∨ a.toNat = 3 ∨ a.toNat = 4 := by omega
    rcases this with e | e | e | e | e <;> rw [e] <;> decide
  omega
theorem Sm_sz {l r : List Int} (hl : WOk l) (hr : ROk r) : (Sm l r).natAbs < 2 ^ 480 := by
  have h := Sm_bound (M := 10 ^ 24) (by decide) (l := l) (r := r) fun a ha x hx => pow_sz (hl.2 a ha) (hr.2 x hx)
  have h1 : 2 ^ r.length ≤ 2 ^ 40 := Nat.pow_le_pow_right (by decide) hr.1
  have h2 : (10 ^ 24) ^ l.length ≤ (10 ^ 24) ^ 5 := Nat.pow_le_pow_right (by decide) hl.1
  have h3 := Nat.mul_le_mul h1 h2
  have h4 : 2 ^ 40 * (10 ^ 24) ^ 5 < 2 ^ 480 := by decide
  omega
theorem mulOk_big {i j : Int} (hi : i.natAbs < 2 ^ 600) (hj : j.natAbs < 2 ^ 600) : MulOk i j := by
  have h1 := PySem.Flt.log2_lt_of (by decide) hi
  have h2 := PySem.Flt.log2_lt_of (by decide) hj
  exact .inr (by omega)
theorem cut_tail {d : D} {ds : List D} : cutD (d :: ds) (some 1) none = ds := by
  simp [retL, gN, sNx, sSeq, sSet, sIf, sRet, sExpr, sPutL, fT, fOp2, fOp1, fCall, gets, fV, fC, fF, frz, Op.get, aNil, aB, aF, owd, L2.atI, L2.ixN, outL, inL, fCallF, callF, toLs, slotsOf, backL, dVals, fLst, fTup, vN, wipeR, backR, calmR, fMut, sPar, sFor, fLc, fRange1, fAnd, fOr, fNot, fB, sFldP, fMeth, fMethQ, fMake, fIterL, fIterT, fFld, ftYes, cutD, HT.sIx]
theorem gEq_nil {l : List Int} : gEq (intsL l) (.lst []) = some (.val (.bl l.isEmpty)) := by
  unfold gEq
  rw [show eqPy (intsL l) (.lst []) = some (l.map D.int).isEmpty from Good.nil (k := 1) Good.intsL (by decide)]
  cases l <;> rfl
theorem WOk.tail {a : Int} {l : List Int} (h : WOk (a :: l)) : WOk l := ⟨by have := h.1; simp at this; omega, fun b hb => h.2 b (List.mem_cons_of_mem _ hb)⟩
theorem ROk.tail {a : Int} {l : List Int} (h : ROk (a :: l)) : ROk l := ⟨by have := h.1; simp at this; omega, fun b hb => h.2 b (List.mem_cons_of_mem _ hb)⟩

end DV

set_option Elab.async false
set_option linter.all false
set_option maxRecDepth 100000
set_option maxHeartbeats 1000000
set_option exponentiation.threshold 2000
namespace DV
open PySem PySem.Spec PyProof.Rows L2
abbrev Lot := List (Int × List Int)
def Vl (z : Lot) (r : List Int) : Int := (z.map fun t => t.1 * Sm t.2 r).sum
def ZOk (z : Lot) : Prop := z.length ≤ 4 ∧ ∀ t ∈ z, -(10 ^ 7) ≤ t.1 ∧ t.1 ≤ 10 ^ 7 ∧ WOk t.2
theorem Vl_sz {z : Lot} {r : List Int} (hz : ZOk z) (hr : ROk r) : (Vl z r).natAbs < 2 ^ 540 := by
  have h : ∀ z : Lot, (∀ t ∈ z, -(10 ^ 7) ≤ t.1 ∧ t.1 ≤ 10 ^ 7 ∧ WOk t.2) → (Vl z r).natAbs ≤ z.length * (10 ^ 7 * 2 ^ 480) := by
    intro z
    induction z with
    | nil => intro _; simp [retL, gN, sNx, sSeq, sSet, sIf, sRet, sExpr, sPutL, fT, fOp2, fOp1, fCall, gets, fV, fC, fF, frz, Op.get, aNil, aB, aF, owd, L2.atI, L2.ixN, outL, inL, fCallF, callF, toLs, slotsOf, backL, dVals, fLst, fTup, vN, wipeR, backR, calmR, fMut, sPar, sFor, fLc, fRange1, fAnd, fOr, fNot, fB, sFldP, fMeth, fMethQ, fMake, fIterL, fIterT, fFld, ftYes, vT, vL, fEnum, Vl]
    | cons t z ih =>
      intro h
      have h1 := ih fun t ht => h t (List.mem_cons_of_mem _ ht)
      obtain ⟨a, b, c⟩ := h t (List.mem_cons_self ..)
      have h2 := Sm_sz c hr
      have h3 : (t.1 * Sm t.2 r).natAbs ≤ 10 ^ 7 * 2 ^ 480 := by
        rw [Int.natAbs_mul]
        exact Nat.mul_le_mul (by omega) (by omega)
      have h4 : Vl (t :: z) r = t.1 * Sm t.2 r + Vl z r := by simp [retL, gN, sNx, sSeq, sSet, sIf, sRet, sExpr, sPutL, fT, fOp2, fOp1, fCall, gets, fV, fC, fF, frz, Op.get, aNil, aB, aF, owd, L2.atI, L2.ixN, outL, inL, fCallF, callF, toLs, slotsOf, backL, dVals, fLst, fTup, vN, wipeR, backR, calmR, fMut, sPar, sFor, fLc, fRange1, fAnd, fOr, fNot, fB, sFldP, fMeth, fMethQ, fMake, fIterL, fIterT, fFld, ftYes, vT, vL, fEnum, Vl]
      rw [h4, List.length_cons, Nat.succ_mul]
      have := Int.natAbs_add_le (t.1 * Sm t.2 r) (Vl z r)
      omega
  have h1 := h z hz.2
  have h2 : z.length * (10 ^ 7 * 2 ^ 480) ≤ 4 * (10 ^ 7 * 2 ^ 480) := Nat.mul_le_mul_right _ hz.1
  have h3 : 4 * (10 ^ 7 * 2 ^ 480) < 2 ^ 540 := by decide
  omega
theorem is_word_ok {l : List Int} (h : WOk l) : F_is_word [.fz (intsL l)] = some (.fz (.bl true), [.fz (intsL l)]) := by
  have q := lcL_mapF (vs := [1]) (g := vN 1) (ft := ftYes) (fe := fOp2 (gCmp fun i j => decide (j ≤ i)) (fV 1) (fC (.int 0))) (ρ := [some (.fz (intsL l)), none])
    D.int (fun a => D.bl true) (zs := l) (acc := []) (fun a ha => by
      have := (h.2 a ha).1
      refine ⟨_, _, [some (.fz (intsL l)), some (.fz (.int a))], rfl, rfl, by simp [retL, gN, sNx, sSeq, sSet, sIf, sRet, sExpr, sPutL, fT, fOp2, fOp1, fCall, gets, fV, fC, fF, frz, Op.get, aNil, aB, aF, owd, L2.atI, L2.ixN, outL, inL, fCallF, callF, toLs, slotsOf, backL, dVals, fLst, fTup, vN, wipeR, backR, calmR, fMut, sPar, sFor, fLc, fRange1, fAnd, fOr, fNot, fB, sFldP, fMeth, fMethQ, fMake, fIterL, fIterT, fFld, ftYes, vT, vL, fEnum, this], by simp [retL, gN, sNx, sSeq, sSet, sIf, sRet, sExpr, sPutL, fT, fOp2, fOp1, fCall, gets, fV, fC, fF, frz, Op.get, aNil, aB, aF, owd, L2.atI, L2.ixN, outL, inL, fCallF, callF, toLs, slotsOf, backL, dVals, fLst, fTup, vN, wipeR, backR, calmR, fMut, sPar, sFor, fLc, fRange1, fAnd, fOr, fNot, fB, sFldP, fMeth, fMethQ, fMake, fIterL, fIterT, fFld, ftYes, vT, vL, fEnum]⟩) (by have := h.1; rw [sizeLine_eq]; simp [retL, gN, sNx, sSeq, sSet, sIf, sRet, sExpr, sPutL, fT, fOp2, fOp1, fCall, gets, fV, fC, fF, frz, Op.get, aNil, aB, aF, owd, L2.atI, L2.ixN, outL, inL, fCallF, callF, toLs, slotsOf, backL, dVals, fLst, fTup, vN, wipeR, backR, calmR, fMut, sPar, sFor, fLc, fRange1, fAnd, fOr, fNot, fB, sFldP, fMeth, fMethQ, fMake, fIterL, fIterT, fFld, ftYes, vT, vL, fEnum]; omega)
  have e : ∀ l : List Int, blsD (l.map fun _ => D.bl true) = some (l.map fun _ => true) := by
    intro l
    induction l with
    | nil => rfl
    | cons a l ih => simp [retL, gN, sNx, sSeq, sSet, sIf, sRet, sExpr, sPutL, fT, fOp2, fOp1, fCall, gets, fV, fC, fF, frz, Op.get, aNil, aB, aF, owd, L2.atI, L2.ixN, outL, inL, fCallF, callF, toLs, slotsOf, backL, dVals, fLst, fTup, vN, wipeR, backR, calmR, fMut, sPar, sFor, fLc, fRange1, fAnd, fOr, fNot, fB, sFldP, fMeth, fMethQ, fMake, fIterL, fIterT, fFld, ftYes, vT, vL, fEnum, blsD, ih]
  simp [retL, gN, sNx, sSeq, sSet, sIf, sRet, sExpr, sPutL, fT, fOp2, fOp1, fCall, gets, fV, fC, fF, frz, Op.get, aNil, aB, aF, owd, L2.atI, L2.ixN, outL, inL, fCallF, callF, toLs, slotsOf, backL, dVals, fLst, fTup, vN, wipeR, backR, calmR, fMut, sPar, sFor, fLc, fRange1, fAnd, fOr, fNot, fB, sFldP, fMeth, fMethQ, fMake, fIterL, fIterT, fFld, ftYes, vT, vL, fEnum, F_is_word, fnS, S_is_word]
  have hq : lcL [1] (vN 1) ftYes (fOp2 (gCmp fun i j => decide (j ≤ i)) (fV 1) (fC (.int 0))) (l.map D.int) [] [some (.fz (intsL l)), none] = _ := q
  simp only [intsL] at hq ⊢
  simp [retL, gN, sNx, sSeq, sSet, sIf, sRet, sExpr, sPutL, fT, fOp2, fOp1, fCall, gets, fV, fC, fF, frz, Op.get, aNil, aB, aF, owd, L2.atI, L2.ixN, outL, inL, fCallF, callF, toLs, slotsOf, backL, dVals, fLst, fTup, vN, wipeR, backR, calmR, fMut, sPar, sFor, fLc, fRange1, fAnd, fOr, fNot, fB, sFldP, fMeth, fMethQ, fMake, fIterL, fIterT, fFld, ftYes, vT, vL, fEnum]
  rw [hq]
  simp [retL, gN, sNx, sSeq, sSet, sIf, sRet, sExpr, sPutL, fT, fOp2, fOp1, fCall, gets, fV, fC, fF, frz, Op.get, aNil, aB, aF, owd, L2.atI, L2.ixN, outL, inL, fCallF, callF, toLs, slotsOf, backL, dVals, fLst, fTup, vN, wipeR, backR, calmR, fMut, sPar, sFor, fLc, fRange1, fAnd, fOr, fNot, fB, sFldP, fMeth, fMethQ, fMake, fIterL, fIterT, fFld, ftYes, vT, vL, fEnum, e]
def ktD (t : Int × List Int) : D := .tup [.int t.1, .tup (t.2.map .int)]
def keptD (z : Lot) : D := .tup (z.map ktD)
def formD (z : Lot) : D := .ins "Formula" [("kept", keptD z)]
theorem enumD_map {α : Type} (f : α → D) : ∀ (z : List α) (n : Nat), ∀ d r, enumD n (z.map f) = d :: r → ∃ t z', z = t :: z' ∧ d = .tup [.int n, f t] ∧ r = enumD (n + 1) (z'.map f)
  | [], n, d, r, h => by cases h
  | t :: z, n, d, r, h => by cases h; exact ⟨t, z, rfl, rfl, rfl⟩
theorem init_ok {z : Lot} (hz : ZOk z) : F_Formula___init__ [.ow none (.ins "Formula" []), .fz (.lst (z.map termD))] = some (.fz .non, [.ow none (formD z), .fz (.lst (z.map termD))]) := by
  obtain ⟨ρ', q1, q2⟩ := forL_run (g := vT [(vN 2), (vT [(vN 3), (vN 4)])]) (body := sIf (fNot (fT (fCallF F_is_word (aF (fV 4) aNil)))) (fun _ => none) sNx)
    (fun r ρ => ∃ (n : Nat) (zs : Lot) (y2 y3 y4 : Option D), r = enumD n (zs.map termD) ∧ (∀ t ∈ zs, WOk t.2) ∧ ρ = [some (.ow (some 0) (.ins "Formula" [])), some (.fz (.lst (z.map termD))), y2.map .fz, y3.map .fz, y4.map .fz])
    (by
      rintro d r ρ ⟨n, zs, y2, y3, y4, hr, hw, rfl⟩
      obtain ⟨t, z', rfl, rfl, rfl⟩ := enumD_map termD zs n d r hr.symm
      have e1 := is_word_ok (hw t (List.mem_cons_self ..))
      refine ⟨[some (.ow (some 0) (.ins "Formula" [])), some (.fz (.lst (z.map termD))), some (.fz (.int n)), some (.fz (.int t.1)), some (.fz (intsL t.2))], [some (.ow (some 0) (.ins "Formula" [])), some (.fz (.lst (z.map termD))), some (.fz (.int n)), some (.fz (.int t.1)), some (.fz (intsL t.2))], by simp [retL, gN, sNx, sSeq, sSet, sIf, sRet, sExpr, sPutL, fT, fOp2, fOp1, fCall, gets, fV, fC, fF, frz, Op.get, aNil, aB, aF, owd, L2.atI, L2.ixN, outL, inL, fCallF, callF, toLs, slotsOf, backL, dVals, fLst, fTup, vN, wipeR, backR, calmR, fMut, sPar, sFor, fLc, fRange1, fAnd, fOr, fNot, fB, sFldP, fMeth, fMethQ, fMake, fIterL, fIterT, fFld, ftYes, vT, vL, fEnum, termD], .inl (by simp [retL, gN, sNx, sSeq, sSet, sIf, sRet, sExpr, sPutL, fT, fOp2, fOp1, fCall, gets, fV, fC, fF, frz, Op.get, aNil, aB, aF, owd, L2.atI, L2.ixN, outL, inL, fCallF, callF, toLs, slotsOf, backL, dVals, fLst, fTup, vN, wipeR, backR, calmR, fMut, sPar, sFor, fLc, fRange1, fAnd, fOr, fNot, fB, sFldP, fMeth, fMethQ, fMake, fIterL, fIterT, fFld, ftYes, vT, vL, fEnum, e1]), ⟨n + 1, z', some (.int n), some (.int t.1), some (intsL t.2), rfl, fun t ht => hw t (List.mem_cons_of_mem _ ht), rfl⟩⟩)
    (enumD 0 (z.map termD)) [some (.ow (some 0) (.ins "Formula" [])), some (.fz (.lst (z.map termD))), none, none, none] ⟨0, z, none, none, none, rfl, fun t ht => (hz.2 t ht).2.2, rfl⟩
  obtain ⟨n, zs, y2, y3, y4, hr, hw, rfl⟩ := q2
  have q := lcL_mapF (vs := [3, 4]) (g := vT [(vN 3), (vN 4)]) (ft := ftYes) (fe := fTup (aF (fV 3) (aF (fCall gTuple (aB (fV 4) aNil)) aNil))) (ρ := [some (.ow (some 0) (.ins "Formula" [])), some (.fz (.lst (z.map termD))), y2.map .fz, none, none])
    termD ktD (zs := z) (acc := []) (fun t ht => by
      have h2 : 2 ≤ sizeLine := by decide
      have g1 : gTuple [intsL t.2] = some (.val (.tup (t.2.map .int))) := rfl
      refine ⟨[some (.ow (some 0) (.ins "Formula" [])), some (.fz (.lst (z.map termD))), y2.map .fz, some (.fz (.int t.1)), some (.fz (intsL t.2))], _, [some (.ow (some 0) (.ins "Formula" [])), some (.fz (.lst (z.map termD))), y2.map .fz, some (.fz (.int t.1)), some (.fz (intsL t.2))], by simp [retL, gN, sNx, sSeq, sSet, sIf, sRet, sExpr, sPutL, fT, fOp2, fOp1, fCall, gets, fV, fC, fF, frz, Op.get, aNil, aB, aF, owd, L2.atI, L2.ixN, outL, inL, fCallF, callF, toLs, slotsOf, backL, dVals, fLst, fTup, vN, wipeR, backR, calmR, fMut, sPar, sFor, fLc, fRange1, fAnd, fOr, fNot, fB, sFldP, fMeth, fMethQ, fMake, fIterL, fIterT, fFld, ftYes, vT, vL, fEnum, termD], rfl, by simp [retL, gN, sNx, sSeq, sSet, sIf, sRet, sExpr, sPutL, fT, fOp2, fOp1, fCall, gets, fV, fC, fF, frz, Op.get, aNil, aB, aF, owd, L2.atI, L2.ixN, outL, inL, fCallF, callF, toLs, slotsOf, backL, dVals, fLst, fTup, vN, wipeR, backR, calmR, fMut, sPar, sFor, fLc, fRange1, fAnd, fOr, fNot, fB, sFldP, fMeth, fMethQ, fMake, fIterL, fIterT, fFld, ftYes, vT, vL, fEnum, h2, g1, ktD], by simp [retL, gN, sNx, sSeq, sSet, sIf, sRet, sExpr, sPutL, fT, fOp2, fOp1, fCall, gets, fV, fC, fF, frz, Op.get, aNil, aB, aF, owd, L2.atI, L2.ixN, outL, inL, fCallF, callF, toLs, slotsOf, backL, dVals, fLst, fTup, vN, wipeR, backR, calmR, fMut, sPar, sFor, fLc, fRange1, fAnd, fOr, fNot, fB, sFldP, fMeth, fMethQ, fMake, fIterL, fIterT, fFld, ftYes, vT, vL, fEnum]⟩) (by have := hz.1; rw [sizeLine_eq]; simp [retL, gN, sNx, sSeq, sSet, sIf, sRet, sExpr, sPutL, fT, fOp2, fOp1, fCall, gets, fV, fC, fF, frz, Op.get, aNil, aB, aF, owd, L2.atI, L2.ixN, outL, inL, fCallF, callF, toLs, slotsOf, backL, dVals, fLst, fTup, vN, wipeR, backR, calmR, fMut, sPar, sFor, fLc, fRange1, fAnd, fOr, fNot, fB, sFldP, fMeth, fMethQ, fMake, fIterL, fIterT, fFld, ftYes, vT, vL, fEnum]; omega)
  have hc : (match (y3.map L.fz : Option L) with | some (.ow _ _) => false | _ => true) = true := by cases y3 <;> rfl
  have hc4 : (match (y4.map L.fz : Option L) with | some (.ow _ _) => false | _ => true) = true := by cases y4 <;> rfl
  simp [retL, gN, sNx, sSeq, sSet, sIf, sRet, sExpr, sPutL, fT, fOp2, fOp1, fCall, gets, fV, fC, fF, frz, Op.get, aNil, aB, aF, owd, L2.atI, L2.ixN, outL, inL, fCallF, callF, toLs, slotsOf, backL, dVals, fLst, fTup, vN, wipeR, backR, calmR, fMut, sPar, sFor, fLc, fRange1, fAnd, fOr, fNot, fB, sFldP, fMeth, fMethQ, fMake, fIterL, fIterT, fFld, ftYes, vT, vL, fEnum, F_Formula___init__, fnS, S_Formula___init__]
  rw [q1]
  cases y3 <;> cases y4 <;> simp [retL, gN, sNx, sSeq, sSet, sIf, sRet, sExpr, sPutL, fT, fOp2, fOp1, fCall, gets, fV, fC, fF, frz, Op.get, aNil, aB, aF, owd, L2.atI, L2.ixN, outL, inL, fCallF, callF, toLs, slotsOf, backL, dVals, fLst, fTup, vN, wipeR, backR, calmR, fMut, sPar, sFor, fLc, fRange1, fAnd, fOr, fNot, fB, sFldP, fMeth, fMethQ, fMake, fIterL, fIterT, fFld, ftYes, vT, vL, fEnum] <;> (rw [q]; simp [retL, gN, sNx, sSeq, sSet, sIf, sRet, sExpr, sPutL, fT, fOp2, fOp1, fCall, gets, fV, fC, fF, frz, Op.get, aNil, aB, aF, owd, L2.atI, L2.ixN, outL, inL, fCallF, callF, toLs, slotsOf, backL, dVals, fLst, fTup, vN, wipeR, backR, calmR, fMut, sPar, sFor, fLc, fRange1, fAnd, fOr, fNot, fB, sFldP, fMeth, fMethQ, fMake, fIterL, fIterT, fFld, ftYes, vT, vL, fEnum, formD, keptD, putA])
end DV

set_option Elab.async false
set_option linter.all false
set_option maxRecDepth 100000
set_option maxHeartbeats 1000000
set_option exponentiation.threshold 2000
namespace DV
open PySem PySem.Spec PyProof.Rows L2
theorem good_kept {z : Lot} : Good 4 (keptD z) := .tup fun d hd => by
  obtain ⟨t, _, rfl⟩ := List.mem_map.mp hd
  refine .tup fun d hd => ?_
  rcases List.mem_cons.mp hd with rfl | hd
  · exact .int
  · rw [List.mem_singleton.mp hd]
    refine .tup fun d hd => ?_
    obtain ⟨i, _, rfl⟩ := List.mem_map.mp hd
    exact .int (k := 1)
theorem fld_form {z : Lot} : gFld ["Formula"] "kept" (formD z) = some (keptD z) := rfl
/-! ### sum_on -/
def fo (l p : List Int) : List Int := (List.range (l.length + 1)).map fun k => Sm (l.take k) p
def mid (l p : List Int) (x : Int) (s : Nat) : List Int := (List.range (l.length + 1)).map fun k => if s < k then Sm (l.take k) (p ++ [x]) else Sm (l.take k) p
theorem fo_nil (l : List Int) : D.int 1 :: (List.replicate l.length [D.int 0]).flatten = (fo l []).map D.int := by
  unfold fo
  rw [List.range_succ_eq_map]
  simp only [List.map_cons, List.map_map, List.take_zero, Sm_nil]
  congr 1
  rw [List.flatten_replicate_singleton]
  apply List.ext_getElem
  · simp [retL, gN, sNx, sSeq, sSet, sIf, sRet, sExpr, sPutL, fT, fOp2, fOp1, fCall, gets, fV, fC, fF, frz, Op.get, aNil, aB, aF, owd, L2.atI, L2.ixN, outL, inL, fCallF, callF, toLs, slotsOf, backL, dVals, fLst, fTup, vN, wipeR, backR, calmR, fMut, sPar, sFor, fLc, fRange1, fAnd, fOr, fNot, fB, sFldP, fMeth, fMethQ, fMake, fIterL, fIterT, fFld, ftYes, vT, vL, fEnum]
  · intro i h1 h2
    simp at h1
    have : Sm (l.take (i + 1)) [] = 0 := Sm_short (by simp [retL, gN, sNx, sSeq, sSet, sIf, sRet, sExpr, sPutL, fT, fOp2, fOp1, fCall, gets, fV, fC, fF, frz, Op.get, aNil, aB, aF, owd, L2.atI, L2.ixN, outL, inL, fCallF, callF, toLs, slotsOf, backL, dVals, fLst, fTup, vN, wipeR, backR, calmR, fMut, sPar, sFor, fLc, fRange1, fAnd, fOr, fNot, fB, sFldP, fMeth, fMethQ, fMake, fIterL, fIterT, fFld, ftYes, vT, vL, fEnum]; omega)
    simp [retL, gN, sNx, sSeq, sSet, sIf, sRet, sExpr, sPutL, fT, fOp2, fOp1, fCall, gets, fV, fC, fF, frz, Op.get, aNil, aB, aF, owd, L2.atI, L2.ixN, outL, inL, fCallF, callF, toLs, slotsOf, backL, dVals, fLst, fTup, vN, wipeR, backR, calmR, fMut, sPar, sFor, fLc, fRange1, fAnd, fOr, fNot, fB, sFldP, fMeth, fMethQ, fMake, fIterL, fIterT, fFld, ftYes, vT, vL, fEnum, this]
theorem mid_top (l p : List Int) (x : Int) : mid l p x l.length = fo l p := by
  unfold mid fo
  apply List.map_congr_left
  intro k hk
  rw [List.mem_range] at hk
  rw [if_neg (by omega)]
theorem mid_zero (l p : List Int) (x : Int) : mid l p x 0 = fo l (p ++ [x]) := by
  unfold mid fo
  apply List.map_congr_left
  intro k hk
  cases k with
  | zero => simp [retL, gN, sNx, sSeq, sSet, sIf, sRet, sExpr, sPutL, fT, fOp2, fOp1, fCall, gets, fV, fC, fF, frz, Op.get, aNil, aB, aF, owd, L2.atI, L2.ixN, outL, inL, fCallF, callF, toLs, slotsOf, backL, dVals, fLst, fTup, vN, wipeR, backR, calmR, fMut, sPar, sFor, fLc, fRange1, fAnd, fOr, fNot, fB, sFldP, fMeth, fMethQ, fMake, fIterL, fIterT, fFld, ftYes, vT, vL, fEnum, Sm_nil]
  | succ k => simp [retL, gN, sNx, sSeq, sSet, sIf, sRet, sExpr, sPutL, fT, fOp2, fOp1, fCall, gets, fV, fC, fF, frz, Op.get, aNil, aB, aF, owd, L2.atI, L2.ixN, outL, inL, fCallF, callF, toLs, slotsOf, backL, dVals, fLst, fTup, vN, wipeR, backR, calmR, fMut, sPar, sFor, fLc, fRange1, fAnd, fOr, fNot, fB, sFldP, fMeth, fMethQ, fMake, fIterL, fIterT, fFld, ftYes, vT, vL, fEnum]
theorem mid_step {l p : List Int} {x : Int} {s : Nat} {a : Int} (ha : l[s]? = some a) : (mid l p x (s + 1)).set (s + 1) (Sm (l.take (s + 1)) p + Sm (l.take s) p * x ^ a.toNat) = mid l p x s := by
  obtain ⟨hs, rfl⟩ := List.getElem?_eq_some_iff.mp ha
  have e : l.take (s + 1) = l.take s ++ [l[s]] := (List.take_append_getElem hs).symm
  unfold mid
  apply List.ext_getElem
  · simp [retL, gN, sNx, sSeq, sSet, sIf, sRet, sExpr, sPutL, fT, fOp2, fOp1, fCall, gets, fV, fC, fF, frz, Op.get, aNil, aB, aF, owd, L2.atI, L2.ixN, outL, inL, fCallF, callF, toLs, slotsOf, backL, dVals, fLst, fTup, vN, wipeR, backR, calmR, fMut, sPar, sFor, fLc, fRange1, fAnd, fOr, fNot, fB, sFldP, fMeth, fMethQ, fMake, fIterL, fIterT, fFld, ftYes, vT, vL, fEnum]
  · intro i h1 h2
    simp at h1
    rw [List.getElem_set]
    split
    · rename_i h
      subst h
      simp [retL, gN, sNx, sSeq, sSet, sIf, sRet, sExpr, sPutL, fT, fOp2, fOp1, fCall, gets, fV, fC, fF, frz, Op.get, aNil, aB, aF, owd, L2.atI, L2.ixN, outL, inL, fCallF, callF, toLs, slotsOf, backL, dVals, fLst, fTup, vN, wipeR, backR, calmR, fMut, sPar, sFor, fLc, fRange1, fAnd, fOr, fNot, fB, sFldP, fMeth, fMethQ, fMake, fIterL, fIterT, fFld, ftYes, vT, vL, fEnum]
      rw [e, Sm_snoc]
    · rename_i h
      simp [retL, gN, sNx, sSeq, sSet, sIf, sRet, sExpr, sPutL, fT, fOp2, fOp1, fCall, gets, fV, fC, fF, frz, Op.get, aNil, aB, aF, owd, L2.atI, L2.ixN, outL, inL, fCallF, callF, toLs, slotsOf, backL, dVals, fLst, fTup, vN, wipeR, backR, calmR, fMut, sPar, sFor, fLc, fRange1, fAnd, fOr, fNot, fB, sFldP, fMeth, fMethQ, fMake, fIterL, fIterT, fFld, ftYes, vT, vL, fEnum]
      by_cases h3 : s < i
      · rw [if_pos (by omega), if_pos h3]
      · rw [if_neg (by omega), if_neg h3]
theorem mid_get {l p : List Int} {x : Int} {s k : Nat} (hk : k ≤ l.length) (hs : k ≤ s) : (mid l p x s)[k]? = some (Sm (l.take k) p) := by
  unfold mid
  rw [List.getElem?_map, List.getElem?_range (by omega)]
  simp [retL, gN, sNx, sSeq, sSet, sIf, sRet, sExpr, sPutL, fT, fOp2, fOp1, fCall, gets, fV, fC, fF, frz, Op.get, aNil, aB, aF, owd, L2.atI, L2.ixN, outL, inL, fCallF, callF, toLs, slotsOf, backL, dVals, fLst, fTup, vN, wipeR, backR, calmR, fMut, sPar, sFor, fLc, fRange1, fAnd, fOr, fNot, fB, sFldP, fMeth, fMethQ, fMake, fIterL, fIterT, fFld, ftYes, vT, vL, fEnum]; omega
theorem rangeD_down (s : Nat) : rangeD ((s + 1 : Nat) : Int) (-1) (s + 1) = D.int ((s + 1 : Nat) : Int) :: rangeD (s : Int) (-1) s := by
  unfold rangeD
  rw [List.range_succ_eq_map]
  simp only [List.map_cons, List.map_map]
  have e0 : D.int (((s + 1 : Nat) : Int) + ((0 : Nat) : Int) * -1) = D.int ((s + 1 : Nat) : Int) := by
    congr 1
  rw [e0]
  congr 1
  apply List.map_congr_left
  intro i _
  show D.int (((s + 1 : Nat) : Int) + ((i + 1 : Nat) : Int) * -1) = D.int ((s : Int) + (i : Int) * -1)
  congr 1
  omega
theorem atI_nat {α : Type} {l : List α} {k : Nat} {x : α} (h : l[k]? = some x) : L2.atI l (k : Int) = some x := by
  obtain ⟨hk, _⟩ := List.getElem?_eq_some_iff.mp h
  unfold L2.atI L2.ixN
  rw [if_pos (by omega), if_pos (by omega)]
  simpa using h
theorem ixN_nat {n k : Nat} (h : k < n) : L2.ixN n (k : Int) = some k := by
  unfold L2.ixN
  rw [if_pos (by omega), if_pos (by omega)]
  simp [retL, gN, sNx, sSeq, sSet, sIf, sRet, sExpr, sPutL, fT, fOp2, fOp1, fCall, gets, fV, fC, fF, frz, Op.get, aNil, aB, aF, owd, L2.atI, L2.ixN, outL, inL, fCallF, callF, toLs, slotsOf, backL, dVals, fLst, fTup, vN, wipeR, backR, calmR, fMut, sPar, sFor, fLc, fRange1, fAnd, fOr, fNot, fB, sFldP, fMeth, fMethQ, fMake, fIterL, fIterT, fFld, ftYes, vT, vL, fEnum]
theorem WOk.take {l : List Int} (h : WOk l) (k : Nat) : WOk (l.take k) := ⟨by have := h.1; simp [retL, gN, sNx, sSeq, sSet, sIf, sRet, sExpr, sPutL, fT, fOp2, fOp1, fCall, gets, fV, fC, fF, frz, Op.get, aNil, aB, aF, owd, L2.atI, L2.ixN, outL, inL, fCallF, callF, toLs, slotsOf, backL, dVals, fLst, fTup, vN, wipeR, backR, calmR, fMut, sPar, sFor, fLc, fRange1, fAnd, fOr, fNot, fB, sFldP, fMeth, fMethQ, fMake, fIterL, fIterT, fFld, ftYes, vT, vL, fEnum]; omega, fun a ha => h.2 a (List.mem_of_mem_take ha)⟩
def wdD (l : List Int) : D := .tup (l.map .int)
theorem inner_ok {l p : List Int} {x : Int} (hl : WOk l) (hp : ROk p) (hx : -(10 ^ 6) ≤ x ∧ x ≤ 10 ^ 6) {e1 : Option L} {y4 : Option L} (s : Nat) (hs : s ≤ l.length) :
    ∃ y4', forL (vN 4) (sAugL 2 gIAdd (fV 4) (fOp2 gMul (fOp2 gIx (fV 2) (fOp2 DV.gSub (fV 4) (fC (.int 1)))) (fCallF F_power_of (aF (fV 3) (aF (fOp2 gIx (fV 0) (fOp2 DV.gSub (fV 4) (fC (.int 1)))) aNil))))) (rangeD (s : Int) (-1) s) [some (.fz (wdD l)), e1, some (.ow none (intsL (mid l p x s))), some (.fz (.int x)), y4]
      = some (.nx [some (.fz (wdD l)), e1, some (.ow none (intsL (mid l p x 0))), some (.fz (.int x)), y4']) := by
  induction s generalizing y4 with
  | zero => exact ⟨y4, rfl⟩
  | succ s ih =>
    rw [rangeD_down]
    obtain ⟨a, ha⟩ : ∃ a, l[s]? = some a := ⟨l[s], List.getElem?_eq_getElem (by omega)⟩
    obtain ⟨y', ih⟩ := ih (y4 := some (.fz (.int ((s + 1 : Nat) : Int)))) (by omega)
    refine ⟨y', ?_⟩
    have ham : a ∈ l := List.mem_of_getElem? ha
    have hb := hl.2 a ham
    have p1 := power_of_ok (a := x) (k := a) (by omega) hb.1 (by omega)
    have g1 : L2.atI ((mid l p x (s + 1)).map D.int) ((s + 1 : Nat) : Int) = some (.int (Sm (l.take (s + 1)) p)) := atI_nat (by rw [List.getElem?_map, mid_get hs (Nat.le_refl _)]; rfl)
    have g2 : L2.atI ((mid l p x (s + 1)).map D.int) (s : Int) = some (.int (Sm (l.take s) p)) := atI_nat (by rw [List.getElem?_map, mid_get (by omega) (by omega)]; rfl)
    have g3 : L2.atI (l.map D.int) (s : Int) = some (.int a) := atI_nat (by rw [List.getElem?_map, ha]; rfl)
    have b1 : MulOk (Sm (l.take s) p) (x ^ a.toNat) := mulOk_big (Nat.lt_of_lt_of_le (Sm_sz (hl.take s) hp) (by decide)) (Nat.lt_of_le_of_lt (pow_sz hb hx) (by decide))
    have ln : (mid l p x (s + 1)).length = l.length + 1 := by simp [retL, gN, sNx, sSeq, sSet, sIf, sRet, sExpr, sPutL, fT, fOp2, fOp1, fCall, gets, fV, fC, fF, frz, Op.get, aNil, aB, aF, owd, L2.atI, L2.ixN, outL, inL, fCallF, callF, toLs, slotsOf, backL, dVals, fLst, fTup, vN, wipeR, backR, calmR, fMut, sPar, sFor, fLc, fRange1, fAnd, fOr, fNot, fB, sFldP, fMeth, fMethQ, fMake, fIterL, fIterT, fFld, ftYes, vT, vL, fEnum, mid]
    have i1 : L2.ixN ((mid l p x (s + 1)).map D.int).length ((s + 1 : Nat) : Int) = some (s + 1) := ixN_nat (by rw [List.length_map, ln]; omega)
    have st : ((mid l p x (s + 1)).map D.int).set (s + 1) (.int (Sm (l.take (s + 1)) p + Sm (l.take s) p * x ^ a.toNat)) = (mid l p x s).map D.int := by
      rw [← List.map_set, mid_step ha]
    have sb : ((s + 1 : Nat) : Int) - 1 = (s : Int) := by omega
    rw [forL]
    have body : (sAugL 2 gIAdd (fV 4) (fOp2 gMul (fOp2 gIx (fV 2) (fOp2 DV.gSub (fV 4) (fC (.int 1)))) (fCallF F_power_of (aF (fV 3) (aF (fOp2 gIx (fV 0) (fOp2 DV.gSub (fV 4) (fC (.int 1)))) aNil))))) [some (.fz (wdD l)), e1, some (.ow none (intsL (mid l p x (s + 1)))), some (.fz (.int x)), some (.fz (.int ((s + 1 : Nat) : Int)))]
        = some (.nx [some (.fz (wdD l)), e1, some (.ow none (intsL (mid l p x s))), some (.fz (.int x)), some (.fz (.int ((s + 1 : Nat) : Int)))]) := by
      simp only [intsL, wdD]
      simp [retL, gN, sNx, sSeq, sSet, sIf, sRet, sExpr, sPutL, fT, fOp2, fOp1, fCall, gets, fV, fC, fF, frz, Op.get, aNil, aB, aF, owd, outL, inL, fCallF, callF, toLs, slotsOf, backL, dVals, fLst, fTup, vN, wipeR, backR, calmR, fMut, sPar, sFor, fLc, fRange1, fAnd, fOr, fNot, fB, sFldP, fMeth, fMethQ, fMake, fIterL, fIterT, fFld, ftYes, vT, vL, fEnum, sAugL, valInt, intD, gIAdd, g1, g2, g3, b1, i1, st, sb, p1, -Int.natCast_add, -List.length_map]
    simp only [vN, List.set_cons_succ, List.set_cons_zero, Option.bind_some]
    rw [body]
    exact ih
theorem il1 {l : List Int} (hl : WOk l) : rangeOk (l.length : Int) 0 = true := by
  have := hl.1
  unfold rangeOk
  rw [decide_eq_true (by omega), decide_eq_true (by omega), decide_eq_true (by decide), decide_eq_true (by decide)]; rfl
theorem il3 {l : List Int} {ρ : Rho} (h : ρ[0]? = some (some (.fz (wdD l)))) : (aB (fCall gLen (aB (fV 0) aNil)) (aB (fC (.int 0)) (aB (fOp1 gNeg (fC (.int 1))) aNil))) ρ = some ([.val (.int l.length), .val (.int 0), .val (.int (-1))], ρ) := by
  have gl : gLen [wdD l] = some (.val (.int l.length)) := by simp [retL, gN, sNx, sSeq, sSet, sIf, sRet, sExpr, sPutL, fT, fOp2, fOp1, fCall, gets, fV, fC, fF, frz, Op.get, aNil, aB, aF, owd, L2.atI, L2.ixN, outL, inL, fCallF, callF, toLs, slotsOf, backL, dVals, fLst, fTup, vN, wipeR, backR, calmR, fMut, sPar, sFor, fLc, fRange1, fAnd, fOr, fNot, fB, sFldP, fMeth, fMethQ, fMake, fIterL, fIterT, fFld, ftYes, vT, vL, fEnum, wdD]
  simp [retL, gN, sNx, sSeq, sSet, sIf, sRet, sExpr, sPutL, fT, fOp2, fOp1, fCall, gets, fV, fC, fF, frz, Op.get, aNil, aB, aF, owd, L2.atI, L2.ixN, outL, inL, fCallF, callF, toLs, slotsOf, backL, dVals, fLst, fTup, vN, wipeR, backR, calmR, fMut, sPar, sFor, fLc, fRange1, fAnd, fOr, fNot, fB, sFldP, fMeth, fMethQ, fMake, fIterL, fIterT, fFld, ftYes, vT, vL, fEnum, gl, h]
theorem r3 {fa : FA} {ρ ρ' : Rho} {i j : Int} (h : fa ρ = some ([.val (.int i), .val (.int j), .val (.int (-1))], ρ')) (ro : rangeOk i j = true) : fRange3 fa ρ = some (rangeD i (-1) (i - j).toNat, ρ') := by
  have e : fRange3 fa ρ = (if (-1 : Int) = -1 ∧ rangeOk i j = true then some (rangeD i (-1) (i - j).toNat, ρ') else none) := by
    unfold fRange3
    rw [h]
    rfl
  rw [e, if_pos ⟨rfl, ro⟩]
theorem outer_ok {l p : List Int} {x : Int} (hl : WOk l) (hp : ROk p) (hx : -(10 ^ 6) ≤ x ∧ x ≤ 10 ^ 6) {e1 : Option L} {y4 : Option L} :
    ∃ y4', sFor (fRange3 (aB (fCall gLen (aB (fV 0) aNil)) (aB (fC (.int 0)) (aB (fOp1 gNeg (fC (.int 1))) aNil)))) (vN 4) (sAugL 2 gIAdd (fV 4) (fOp2 gMul (fOp2 gIx (fV 2) (fOp2 DV.gSub (fV 4) (fC (.int 1)))) (fCallF F_power_of (aF (fV 3) (aF (fOp2 gIx (fV 0) (fOp2 DV.gSub (fV 4) (fC (.int 1)))) aNil))))) [some (.fz (wdD l)), e1, some (.ow none (intsL (fo l p))), some (.fz (.int x)), y4]
      = some (.nx [some (.fz (wdD l)), e1, some (.ow none (intsL (fo l (p ++ [x])))), some (.fz (.int x)), y4']) := by
  obtain ⟨y', h⟩ := inner_ok (l := l) (p := p) (x := x) hl hp hx (e1 := e1) (y4 := y4) l.length (Nat.le_refl _)
  rw [mid_top, mid_zero] at h
  refine ⟨y', ?_⟩
  have il := r3 (il3 (l := l) (ρ := [some (.fz (wdD l)), e1, some (.ow none (intsL (fo l p))), some (.fz (.int x)), y4]) rfl) (il1 hl)
  rw [Int.sub_zero, Int.toNat_natCast] at il
  unfold sFor
  rw [il]
  simp only [Option.bind_some]
  exact h
theorem sum_loop {l r : List Int} (hl : WOk l) (hr : ROk r) : ∃ y3 y4, forL (vN 3) (sFor (fRange3 (aB (fCall gLen (aB (fV 0) aNil)) (aB (fC (.int 0)) (aB (fOp1 gNeg (fC (.int 1))) aNil)))) (vN 4) (sAugL 2 gIAdd (fV 4) (fOp2 gMul (fOp2 gIx (fV 2) (fOp2 DV.gSub (fV 4) (fC (.int 1)))) (fCallF F_power_of (aF (fV 3) (aF (fOp2 gIx (fV 0) (fOp2 DV.gSub (fV 4) (fC (.int 1)))) aNil))))))
    (r.map .int) [some (.fz (wdD l)), some (.fz (intsL r)), some (.ow none (intsL (fo l []))), none, none] = some (.nx [some (.fz (wdD l)), some (.fz (intsL r)), some (.ow none (intsL (fo l r))), y3, y4]) := by
  obtain ⟨ρ', q1, q2⟩ := forL_run (g := vN 3) (body := (sFor (fRange3 (aB (fCall gLen (aB (fV 0) aNil)) (aB (fC (.int 0)) (aB (fOp1 gNeg (fC (.int 1))) aNil)))) (vN 4) (sAugL 2 gIAdd (fV 4) (fOp2 gMul (fOp2 gIx (fV 2) (fOp2 DV.gSub (fV 4) (fC (.int 1)))) (fCallF F_power_of (aF (fV 3) (aF (fOp2 gIx (fV 0) (fOp2 DV.gSub (fV 4) (fC (.int 1)))) aNil)))))))
    (fun ds ρ => ∃ (p q : List Int) (y3 y4 : Option L), p ++ q = r ∧ ds = q.map .int ∧ ρ = [some (.fz (wdD l)), some (.fz (intsL r)), some (.ow none (intsL (fo l p))), y3, y4])
    (by
      rintro d ds ρ ⟨p, q, y3, y4, hpq, hq, rfl⟩
      cases q with
      | nil => cases hq
      | cons x q =>
        cases hq
        have hxr : x ∈ r := by rw [← hpq]; simp [retL, gN, sNx, sSeq, sSet, sIf, sRet, sExpr, sPutL, fT, fOp2, fOp1, fCall, gets, fV, fC, fF, frz, Op.get, aNil, aB, aF, owd, L2.atI, L2.ixN, outL, inL, fCallF, callF, toLs, slotsOf, backL, dVals, fLst, fTup, vN, wipeR, backR, calmR, fMut, sPar, sFor, fLc, fRange1, fAnd, fOr, fNot, fB, sFldP, fMeth, fMethQ, fMake, fIterL, fIterT, fFld, ftYes, vT, vL, fEnum]
        have hpr : ROk p := ⟨by have := hr.1; rw [← hpq] at this; simp at this; omega, fun y hy => hr.2 y (by rw [← hpq]; simp [retL, gN, sNx, sSeq, sSet, sIf, sRet, sExpr, sPutL, fT, fOp2, fOp1, fCall, gets, fV, fC, fF, frz, Op.get, aNil, aB, aF, owd, L2.atI, L2.ixN, outL, inL, fCallF, callF, toLs, slotsOf, backL, dVals, fLst, fTup, vN, wipeR, backR, calmR, fMut, sPar, sFor, fLc, fRange1, fAnd, fOr, fNot, fB, sFldP, fMeth, fMethQ, fMake, fIterL, fIterT, fFld, ftYes, vT, vL, fEnum, hy])⟩
        obtain ⟨y', h⟩ := outer_ok (l := l) (p := p) (x := x) hl hpr (hr.2 x hxr) (e1 := some (.fz (intsL r))) (y4 := y4)
        exact ⟨_, _, rfl, .inl h, ⟨p ++ [x], q, some (.fz (.int x)), y', by simp [retL, gN, sNx, sSeq, sSet, sIf, sRet, sExpr, sPutL, fT, fOp2, fOp1, fCall, gets, fV, fC, fF, frz, Op.get, aNil, aB, aF, owd, L2.atI, L2.ixN, outL, inL, fCallF, callF, toLs, slotsOf, backL, dVals, fLst, fTup, vN, wipeR, backR, calmR, fMut, sPar, sFor, fLc, fRange1, fAnd, fOr, fNot, fB, sFldP, fMeth, fMethQ, fMake, fIterL, fIterT, fFld, ftYes, vT, vL, fEnum, hpq], rfl, rfl⟩⟩)
    (r.map .int) [some (.fz (wdD l)), some (.fz (intsL r)), some (.ow none (intsL (fo l []))), none, none] ⟨[], r, none, none, rfl, rfl, rfl⟩
  obtain ⟨p, q, y3, y4, hpq, hq, rfl⟩ := q2
  have : q = [] := by cases q with | nil => rfl | cons a b => cases hq
  subst this
  rw [List.append_nil] at hpq
  subst hpq
  exact ⟨y3, y4, q1⟩
end DV

set_option Elab.async false
set_option linter.all false
set_option maxRecDepth 100000
set_option maxHeartbeats 1000000
set_option exponentiation.threshold 2000
namespace DV
open PySem PySem.Spec PyProof.Rows L2
theorem z_e0 (l : List Int) : D.lst ([D.int 1] ++ (List.replicate l.length (D.int 0))) = intsL (fo l []) := by
    have := fo_nil l
    rw [List.flatten_replicate_singleton] at this
    show D.lst (D.int 1 :: List.replicate l.length (D.int 0)) = _
    rw [this]; rfl
theorem z_gm {n : Nat} (hn : n ≤ 5) : gMul (.lst [.int 0]) (.int n) = some (.own (.lst (List.replicate n (D.int 0)))) := by
    have c2 : 1 * n ≤ sizeLine := by rw [sizeLine_eq]; omega
    have h1 : -(2 ^ 63) ≤ (n : Int) ∧ (n : Int) < 2 ^ 63 ∧ [D.int 0].length * (n : Int).toNat ≤ sizeLine := ⟨by omega, by omega, c2⟩
    have e := gMul_l (a := [.int 0]) (k := (n : Int))
    rw [if_pos h1, Int.toNat_natCast, List.flatten_replicate_singleton] at e
    exact e
theorem z_ga {l : List Int} (h4 : l.length ≤ 5) : gAdd (.lst [.int 1]) (.lst (List.replicate l.length (D.int 0))) = some (.own (intsL (fo l []))) := by
    have c : [D.int 1].length + (List.replicate l.length (D.int 0)).length ≤ sizeLine := by rw [sizeLine_eq, List.length_replicate]; show 1 + _ ≤ _; omega
    have e := gAdd_l (a := [.int 1]) (b := List.replicate l.length (D.int 0))
    rw [if_pos c, z_e0] at e
    exact e
theorem z_gx {l p : List Int} : gIx (intsL (fo l p)) (.int l.length) = some (.val (.int (Sm l p))) := by
    have g1 : L2.atI ((fo l p).map D.int) (l.length : Int) = some (.int (Sm l p)) := atI_nat (by
      rw [List.getElem?_map]
      unfold fo
      rw [List.getElem?_map, List.getElem?_range (by omega)]
      simp [retL, gN, sNx, sSeq, sSet, sIf, sRet, sExpr, sPutL, fT, fOp2, fOp1, fCall, gets, fV, fC, fF, frz, Op.get, aNil, aB, aF, owd, L2.atI, L2.ixN, outL, inL, fCallF, callF, toLs, slotsOf, backL, dVals, fLst, fTup, vN, wipeR, backR, calmR, fMut, sPar, sFor, fLc, fRange1, fAnd, fOr, fNot, fB, sFldP, fMeth, fMethQ, fMake, fIterL, fIterT, fFld, ftYes, vT, vL, fEnum])
    show (L2.atI ((fo l p).map D.int) (l.length : Int)).map Op.val = _
    rw [g1]; rfl
theorem z_il {l p : List Int} {e2 e3 e4 : Option L} : fIterL (fV 1) [some (L.fz (wdD l)), some (L.fz (intsL p)), e2, e3, e4] = some (p.map .int, [some (L.fz (wdD l)), some (L.fz (intsL p)), e2, e3, e4]) := by
    simp [retL, gN, sNx, sSeq, sSet, sIf, sRet, sExpr, sPutL, fT, fOp2, fOp1, fCall, gets, fV, fC, fF, frz, Op.get, aNil, aB, aF, owd, L2.atI, L2.ixN, outL, inL, fCallF, callF, toLs, slotsOf, backL, dVals, fLst, fTup, vN, wipeR, backR, calmR, fMut, sPar, sFor, fLc, fRange1, fAnd, fOr, fNot, fB, sFldP, fMeth, fMethQ, fMake, fIterL, fIterT, fFld, ftYes, vT, vL, fEnum, intsL]
theorem z_len {l : List Int} {e1 e2 e3 e4 : Option L} : (fCall gLen (aB (fV 0) aNil)) [some (L.fz (wdD l)), e1, e2, e3, e4] = some (.val (.int l.length), [some (L.fz (wdD l)), e1, e2, e3, e4]) := by
    have gl : gLen [wdD l] = some (.val (.int l.length)) := by simp [retL, gN, sNx, sSeq, sSet, sIf, sRet, sExpr, sPutL, fT, fOp2, fOp1, fCall, gets, fV, fC, fF, frz, Op.get, aNil, aB, aF, owd, L2.atI, L2.ixN, outL, inL, fCallF, callF, toLs, slotsOf, backL, dVals, fLst, fTup, vN, wipeR, backR, calmR, fMut, sPar, sFor, fLc, fRange1, fAnd, fOr, fNot, fB, sFldP, fMeth, fMethQ, fMake, fIterL, fIterT, fFld, ftYes, vT, vL, fEnum, wdD]
    simp [retL, gN, sNx, sSeq, sSet, sIf, sRet, sExpr, sPutL, fT, fOp2, fOp1, fCall, gets, fV, fC, fF, frz, Op.get, aNil, aB, aF, owd, L2.atI, L2.ixN, outL, inL, fCallF, callF, toLs, slotsOf, backL, dVals, fLst, fTup, vN, wipeR, backR, calmR, fMut, sPar, sFor, fLc, fRange1, fAnd, fOr, fNot, fB, sFldP, fMeth, fMethQ, fMake, fIterL, fIterT, fFld, ftYes, vT, vL, fEnum, gl]
theorem z_d0 {ρ : Rho} : (fLst (aF (fC (.int 0)) aNil)) ρ = some (.own (.lst [.int 0]), ρ) := by
    have c4 : 1 ≤ sizeLine := by decide
    simp [retL, gN, sNx, sSeq, sSet, sIf, sRet, sExpr, sPutL, fT, fOp2, fOp1, fCall, gets, fV, fC, fF, frz, Op.get, aNil, aB, aF, owd, L2.atI, L2.ixN, outL, inL, fCallF, callF, toLs, slotsOf, backL, dVals, fLst, fTup, vN, wipeR, backR, calmR, fMut, sPar, sFor, fLc, fRange1, fAnd, fOr, fNot, fB, sFldP, fMeth, fMethQ, fMake, fIterL, fIterT, fFld, ftYes, vT, vL, fEnum, c4]
theorem z_d1 {ρ : Rho} : (fLst (aF (fC (.int 1)) aNil)) ρ = some (.own (.lst [.int 1]), ρ) := by
    have c4 : 1 ≤ sizeLine := by decide
    simp [retL, gN, sNx, sSeq, sSet, sIf, sRet, sExpr, sPutL, fT, fOp2, fOp1, fCall, gets, fV, fC, fF, frz, Op.get, aNil, aB, aF, owd, L2.atI, L2.ixN, outL, inL, fCallF, callF, toLs, slotsOf, backL, dVals, fLst, fTup, vN, wipeR, backR, calmR, fMut, sPar, sFor, fLc, fRange1, fAnd, fOr, fNot, fB, sFldP, fMeth, fMethQ, fMake, fIterL, fIterT, fFld, ftYes, vT, vL, fEnum, c4]
theorem z_s1 {l p : List Int} (h4 : l.length ≤ 5) : sSet 2 (fOp2 gAdd (fLst (aF (fC (.int 1)) aNil)) (fOp2 gMul (fLst (aF (fC (.int 0)) aNil)) (fCall gLen (aB (fV 0) aNil)))) [some (L.fz (wdD l)), some (L.fz (intsL p)), none, none, none] = some (.nx [some (L.fz (wdD l)), some (L.fz (intsL p)), some (L.ow none (intsL (fo l []))), none, none]) := by
  have e : (fOp2 gAdd (fLst (aF (fC (.int 1)) aNil)) (fOp2 gMul (fLst (aF (fC (.int 0)) aNil)) (fCall gLen (aB (fV 0) aNil)))) [some (L.fz (wdD l)), some (L.fz (intsL p)), none, none, none] = some (.own (intsL (fo l [])), [some (L.fz (wdD l)), some (L.fz (intsL p)), none, none, none]) :=
    fOp2_ok z_d1 (fOp2_ok z_d0 z_len rfl rfl (z_gm h4)) rfl rfl (z_ga h4)
  unfold sSet
  rw [e]
  rfl
theorem z_s3 {l p : List Int} {y3 y4 : Option L} : sRet (fOp2 gIx (fV 2) (fCall gLen (aB (fV 0) aNil))) [some (L.fz (wdD l)), some (L.fz (intsL p)), some (L.ow none (intsL (fo l p))), y3, y4] = some (.ret (.fz (.int (Sm l p))) [some (L.fz (wdD l)), some (L.fz (intsL p)), some (L.ow none (intsL (fo l p))), y3, y4]) := by
    have gl : gLen [wdD l] = some (.val (.int l.length)) := by simp [retL, gN, sNx, sSeq, sSet, sIf, sRet, sExpr, sPutL, fT, fOp2, fOp1, fCall, gets, fV, fC, fF, frz, Op.get, aNil, aB, aF, owd, L2.atI, L2.ixN, outL, inL, fCallF, callF, toLs, slotsOf, backL, dVals, fLst, fTup, vN, wipeR, backR, calmR, fMut, sPar, sFor, fLc, fRange1, fAnd, fOr, fNot, fB, sFldP, fMeth, fMethQ, fMake, fIterL, fIterT, fFld, ftYes, vT, vL, fEnum, wdD]
    simp [retL, gN, sNx, sSeq, sSet, sIf, sRet, sExpr, sPutL, fT, fOp2, fOp1, fCall, gets, fV, fC, fF, frz, Op.get, aNil, aB, aF, owd, L2.atI, L2.ixN, outL, inL, fCallF, callF, toLs, slotsOf, backL, dVals, fLst, fTup, vN, wipeR, backR, calmR, fMut, sPar, sFor, fLc, fRange1, fAnd, fOr, fNot, fB, sFldP, fMeth, fMethQ, fMake, fIterL, fIterT, fFld, ftYes, vT, vL, fEnum, gl, z_gx]
theorem sum_on_ok {l p : List Int} (hl : WOk l) (hr : ROk p) : F_sum_on [.fz (wdD l), .fz (intsL p)] = some (.fz (.int (Sm l p)), [.fz (wdD l), .fz (intsL p)]) := by
  obtain ⟨y3, y4, q1⟩ := sum_loop hl hr
  have lo : sFor (fIterL (fV 1)) (vN 3) (sFor (fRange3 (aB (fCall gLen (aB (fV 0) aNil)) (aB (fC (.int 0)) (aB (fOp1 gNeg (fC (.int 1))) aNil)))) (vN 4) (sAugL 2 gIAdd (fV 4) (fOp2 gMul (fOp2 gIx (fV 2) (fOp2 DV.gSub (fV 4) (fC (.int 1)))) (fCallF F_power_of (aF (fV 3) (aF (fOp2 gIx (fV 0) (fOp2 DV.gSub (fV 4) (fC (.int 1)))) aNil)))))) [some (L.fz (wdD l)), some (L.fz (intsL p)), some (L.ow none (intsL (fo l []))), none, none] = some (.nx [some (.fz (wdD l)), some (.fz (intsL p)), some (.ow none (intsL (fo l p))), y3, y4]) := by
    unfold sFor
    rw [z_il]
    simp only [Option.bind_some]
    exact q1
  exact fnS_ret rfl (sSeq_nx (z_s1 hl.1) (sSeq_nx lo z_s3)) rfl
end DV

set_option Elab.async false
set_option linter.all false
set_option maxRecDepth 100000
set_option maxHeartbeats 1000000
set_option exponentiation.threshold 2000
namespace DV
open PySem PySem.Spec PyProof.Rows L2
theorem b1 {t : Int × List Int} {r : List Int} (a : -(10 ^ 7) ≤ t.1) (b : t.1 ≤ 10 ^ 7) : MulOk t.1 (Sm t.2 r) := mulOk_small (by omega)
theorem b2 {t : Int × List Int} {r : List Int} (m1 : MulOk t.1 (Sm t.2 r)) : gMul (.int t.1) (.int (Sm t.2 r)) = some (.val (.int (t.1 * Sm t.2 r))) := by rw [gMul_i, if_pos m1]
theorem b3 {F : FN} {G : D → D → Option Op} {t : Int × List Int} {r : List Int} {z : Lot} {x : Int} (e1 : F [.fz (wdD t.2), .fz (intsL r)] = some (.fz (.int x), [.fz (wdD t.2), .fz (intsL r)])) (g1 : G (.int t.1) (.int x) = some (.val (.int (t.1 * x)))) : fF (fOp2 G (fV 2) (fCallF F (aF (fV 3) (aF (fV 1) aNil)))) [some (.ow (some 0) (formD z)), some (.fz (intsL r)), some (.fz (.int t.1)), some (.fz (wdD t.2))] = some (.int (t.1 * x), [some (.ow (some 0) (formD z)), some (.fz (intsL r)), some (.fz (.int t.1)), some (.fz (wdD t.2))]) := by
  simp [retL, gN, sNx, sSeq, sSet, sIf, sRet, sExpr, sPutL, fT, fOp2, fOp1, fCall, gets, fV, fC, fF, frz, Op.get, aNil, aB, aF, owd, L2.atI, L2.ixN, outL, inL, fCallF, callF, toLs, slotsOf, backL, dVals, fLst, fTup, vN, wipeR, backR, calmR, fMut, sPar, sFor, fLc, fRange1, fAnd, fOr, fNot, fB, sFldP, fMeth, fMethQ, fMake, fIterL, fIterT, fFld, ftYes, vT, vL, fEnum, e1, g1]
theorem v_step {z : Lot} {r : List Int} (hr : ROk r) {t : Int × List Int} (a : -(10 ^ 7) ≤ t.1) (b : t.1 ≤ 10 ^ 7) (c : WOk t.2) : fF (fOp2 gMul (fV 2) (fCallF F_sum_on (aF (fV 3) (aF (fV 1) aNil)))) [some (.ow (some 0) (formD z)), some (.fz (intsL r)), some (.fz (.int t.1)), some (.fz (wdD t.2))] = some (.int (t.1 * Sm t.2 r), [some (.ow (some 0) (formD z)), some (.fz (intsL r)), some (.fz (.int t.1)), some (.fz (wdD t.2))]) := b3 (sum_on_ok c hr) (b2 (b1 a b))
theorem v_q {z : Lot} {r : List Int} (hz : ZOk z) (hr : ROk r) : lcL [2, 3] (vT [(vN 2), (vN 3)]) ftYes (fOp2 gMul (fV 2) (fCallF F_sum_on (aF (fV 3) (aF (fV 1) aNil)))) (z.map ktD) [] [some (.ow (some 0) (formD z)), some (.fz (intsL r)), none, none] = some ([] ++ z.map (fun t => D.int (t.1 * Sm t.2 r)), [some (.ow (some 0) (formD z)), some (.fz (intsL r)), none, none]) :=
  lcL_mapF (vs := [2, 3]) (g := vT [(vN 2), (vN 3)]) (ft := ftYes) (fe := fOp2 gMul (fV 2) (fCallF F_sum_on (aF (fV 3) (aF (fV 1) aNil)))) (ρ := [some (.ow (some 0) (formD z)), some (.fz (intsL r)), none, none])
    ktD (fun t => D.int (t.1 * Sm t.2 r)) (zs := z) (acc := []) (fun t ht => by
      obtain ⟨a, b, c⟩ := hz.2 t ht
      exact ⟨[some (.ow (some 0) (formD z)), some (.fz (intsL r)), some (.fz (.int t.1)), some (.fz (wdD t.2))], _, _, rfl, rfl, v_step hr a b c, rfl⟩) (by have := hz.1; rw [sizeLine_eq]; simp [retL, gN, sNx, sSeq, sSet, sIf, sRet, sExpr, sPutL, fT, fOp2, fOp1, fCall, gets, fV, fC, fF, frz, Op.get, aNil, aB, aF, owd, L2.atI, L2.ixN, outL, inL, fCallF, callF, toLs, slotsOf, backL, dVals, fLst, fTup, vN, wipeR, backR, calmR, fMut, sPar, sFor, fLc, fRange1, fAnd, fOr, fNot, fB, sFldP, fMeth, fMethQ, fMake, fIterL, fIterT, fFld, ftYes, vT, vL, fEnum]; omega)
theorem v_il {z : Lot} {e2 e3 e4 : Option L} : fIterT (fFld ["Formula"] "kept" (fV 0)) [some (.ow (some 0) (formD z)), e2, e3, e4] = some (z.map ktD, [some (.ow (some 0) (formD z)), e2, e3, e4]) := rfl
theorem v_sum {α : Type} (f : α → Int) (z : List α) : intsD (z.map fun t => D.int (f t)) = some (z.map f) := by
  rw [show (z.map fun t => D.int (f t)) = (z.map f).map D.int by simp [retL, gN, sNx, sSeq, sSet, sIf, sRet, sExpr, sPutL, fT, fOp2, fOp1, fCall, gets, fV, fC, fF, frz, Op.get, aNil, aB, aF, owd, L2.atI, L2.ixN, outL, inL, fCallF, callF, toLs, slotsOf, backL, dVals, fLst, fTup, vN, wipeR, backR, calmR, fMut, sPar, sFor, fLc, fRange1, fAnd, fOr, fNot, fB, sFldP, fMeth, fMethQ, fMake, fIterL, fIterT, fFld, ftYes, vT, vL, fEnum]]
  exact intsD_map _
theorem value_on_ok {x : Option Nat} {z : Lot} {r : List Int} (hz : ZOk z) (hr : ROk r) : F_Formula_value_on [.ow x (formD z), .fz (intsL r)] = some (.fz (.int (Vl z r)), [.ow none (formD z), .fz (intsL r)]) := by
  have g1 : gSum [.lst ([] ++ z.map fun t => D.int (t.1 * Sm t.2 r))] = some (.val (.int (Vl z r))) := by
    rw [gSum_l, List.nil_append, v_sum]
    rfl
  exact fnS_ret (ρ := [some (.ow (some 0) (formD z)), some (.fz (intsL r)), none, none]) rfl (sRet_ok (fCall1_ok (fLc_ok v_il rfl (v_q hz hr) rfl) rfl g1) rfl) rfl
theorem Vl_nil {z : Lot} : Vl z [] = ((z.filter fun t => t.2.isEmpty).map fun t => t.1).sum := by
  unfold Vl
  induction z with
  | nil => rfl
  | cons t z ih =>
    obtain ⟨s, l⟩ := t
    cases l with
    | nil => simp [retL, gN, sNx, sSeq, sSet, sIf, sRet, sExpr, sPutL, fT, fOp2, fOp1, fCall, gets, fV, fC, fF, frz, Op.get, aNil, aB, aF, owd, L2.atI, L2.ixN, outL, inL, fCallF, callF, toLs, slotsOf, backL, dVals, fLst, fTup, vN, wipeR, backR, calmR, fMut, sPar, sFor, fLc, fRange1, fAnd, fOr, fNot, fB, sFldP, fMeth, fMethQ, fMake, fIterL, fIterT, fFld, ftYes, vT, vL, fEnum, Sm] at ih ⊢; exact ih
    | cons a l => simp [retL, gN, sNx, sSeq, sSet, sIf, sRet, sExpr, sPutL, fT, fOp2, fOp1, fCall, gets, fV, fC, fF, frz, Op.get, aNil, aB, aF, owd, L2.atI, L2.ixN, outL, inL, fCallF, callF, toLs, slotsOf, backL, dVals, fLst, fTup, vN, wipeR, backR, calmR, fMut, sPar, sFor, fLc, fRange1, fAnd, fOr, fNot, fB, sFldP, fMeth, fMethQ, fMake, fIterL, fIterT, fFld, ftYes, vT, vL, fEnum, Sm] at ih ⊢; exact ih

end DV

set_option Elab.async false
set_option linter.all false
set_option maxRecDepth 100000
set_option maxHeartbeats 1000000
set_option exponentiation.threshold 2000
namespace DV
open PySem PySem.Spec PyProof.Rows L2
/-! ### choices -/
def Ch : Nat → Nat → Nat
  | _, 0 => 1
  | 0, _ + 1 => 0
  | n + 1, k + 1 => Ch n k + Ch n (k + 1)
theorem Ch_zero (n : Nat) : Ch n 0 = 1 := by cases n <;> rfl
theorem Ch_step : ∀ n t : Nat, (Ch n (t + 1) : Int) * (t + 1 : Nat) = Ch n t * ((n : Int) - t)
  | 0, 0 => rfl
  | 0, t + 1 => by simp only [Ch]; omega
  | n + 1, 0 => by
    have h := Ch_step n 0
    rw [Ch_zero] at h ⊢
    simp only [Ch, Ch_zero]
    omega
  | n + 1, s + 1 => by
    have h1 := Ch_step n (s + 1)
    have h2 := Ch_step n s
    simp only [Ch]
    generalize Ch n (s + 1 + 1) = A at h1 ⊢
    generalize Ch n (s + 1) = B at h1 h2 ⊢
    generalize Ch n s = C at h2 ⊢
    have e1 : ((B + A : Nat) : Int) * ((s + 1 + 1 : Nat) : Int) = B * ((s + 1 + 1 : Nat) : Int) + A * ((s + 1 + 1 : Nat) : Int) := by rw [Int.natCast_add, Int.add_mul]
    have e2 : ((C + B : Nat) : Int) * (((n + 1 : Nat) : Int) - ((s + 1 : Nat) : Int)) = C * ((n : Int) - s) + B * ((n : Int) - s) := by
      have : (((n + 1 : Nat) : Int) - ((s + 1 : Nat) : Int)) = (n : Int) - s := by omega
      rw [this, Int.natCast_add, Int.add_mul]
    rw [e1, e2, h1, ← h2, ← Int.mul_add, ← Int.mul_add]
    congr 1
    omega
theorem Ch_le : ∀ n k : Nat, Ch n k ≤ 2 ^ n
  | n, 0 => by rw [Ch_zero]; exact Nat.one_le_two_pow
  | 0, k + 1 => Nat.zero_le _
  | n + 1, k + 1 => by
    have h1 := Ch_le n k
    have h2 := Ch_le n (k + 1)
    simp only [Ch, Nat.pow_succ]
    omega
def sumN (l : List Int) : Nat := (l.map Int.toNat).sum
theorem Sm_rep (x : Int) : ∀ (n : Nat) (l : List Int), Sm l (List.replicate n x) = Ch n l.length * x ^ sumN l
  | n, [] => by simp [retL, gN, sNx, sSeq, sSet, sIf, sRet, sExpr, sPutL, fT, fOp2, fOp1, fCall, gets, fV, fC, fF, frz, Op.get, aNil, aB, aF, owd, L2.atI, L2.ixN, outL, inL, fCallF, callF, toLs, slotsOf, backL, dVals, fLst, fTup, vN, wipeR, backR, calmR, fMut, sPar, sFor, fLc, fRange1, fAnd, fOr, fNot, fB, sFldP, fMeth, fMethQ, fMake, fIterL, fIterT, fFld, ftYes, vT, vL, fEnum, Sm_nil, Ch_zero, sumN]
  | 0, a :: l => by simp [retL, gN, sNx, sSeq, sSet, sIf, sRet, sExpr, sPutL, fT, fOp2, fOp1, fCall, gets, fV, fC, fF, frz, Op.get, aNil, aB, aF, owd, L2.atI, L2.ixN, outL, inL, fCallF, callF, toLs, slotsOf, backL, dVals, fLst, fTup, vN, wipeR, backR, calmR, fMut, sPar, sFor, fLc, fRange1, fAnd, fOr, fNot, fB, sFldP, fMeth, fMethQ, fMake, fIterL, fIterT, fFld, ftYes, vT, vL, fEnum, Sm, Ch]
  | n + 1, a :: l => by
    rw [List.replicate_succ, Sm, Sm_rep x n l, Sm_rep x n (a :: l)]
    simp only [List.length_cons, Ch]
    have e : sumN (a :: l) = a.toNat + sumN l := by simp [retL, gN, sNx, sSeq, sSet, sIf, sRet, sExpr, sPutL, fT, fOp2, fOp1, fCall, gets, fV, fC, fF, frz, Op.get, aNil, aB, aF, owd, L2.atI, L2.ixN, outL, inL, fCallF, callF, toLs, slotsOf, backL, dVals, fLst, fTup, vN, wipeR, backR, calmR, fMut, sPar, sFor, fLc, fRange1, fAnd, fOr, fNot, fB, sFldP, fMeth, fMethQ, fMake, fIterL, fIterT, fFld, ftYes, vT, vL, fEnum, sumN]
    rw [e, Int.pow_add, Int.natCast_add, Int.add_mul]
    congr 1
    rw [Int.mul_left_comm]
theorem sumN_eq : ∀ {l : List Int}, (∀ a ∈ l, 0 ≤ a) → (sumN l : Int) = l.sum
  | [], _ => rfl
  | a :: l, h => by
    have h1 := sumN_eq (l := l) fun b hb => h b (List.mem_cons_of_mem _ hb)
    have h2 := h a (List.mem_cons_self ..)
    have e : sumN (a :: l) = a.toNat + sumN l := by simp [retL, gN, sNx, sSeq, sSet, sIf, sRet, sExpr, sPutL, fT, fOp2, fOp1, fCall, gets, fV, fC, fF, frz, Op.get, aNil, aB, aF, owd, L2.atI, L2.ixN, outL, inL, fCallF, callF, toLs, slotsOf, backL, dVals, fLst, fTup, vN, wipeR, backR, calmR, fMut, sPar, sFor, fLc, fRange1, fAnd, fOr, fNot, fB, sFldP, fMeth, fMethQ, fMake, fIterL, fIterT, fFld, ftYes, vT, vL, fEnum, sumN]
    rw [e, List.sum_cons]
    omega
theorem Sm_0 : ∀ r : List Int, Sm [0] r = r.length
  | [] => rfl
  | x :: r => by rw [Sm, Sm_0 r, Sm_nil]; simp [retL, gN, sNx, sSeq, sSet, sIf, sRet, sExpr, sPutL, fT, fOp2, fOp1, fCall, gets, fV, fC, fF, frz, Op.get, aNil, aB, aF, owd, L2.atI, L2.ixN, outL, inL, fCallF, callF, toLs, slotsOf, backL, dVals, fLst, fTup, vN, wipeR, backR, calmR, fMut, sPar, sFor, fLc, fRange1, fAnd, fOr, fNot, fB, sFldP, fMeth, fMethQ, fMake, fIterL, fIterT, fFld, ftYes, vT, vL, fEnum]; omega
theorem Sm_1 : ∀ r : List Int, Sm [1] r = r.sum
  | [] => rfl
  | x :: r => by
    rw [Sm, Sm_1 r, Sm_nil]
    have : (1 : Int).toNat = 1 := rfl
    rw [this, Int.pow_succ, Int.pow_zero]
    simp [retL, gN, sNx, sSeq, sSet, sIf, sRet, sExpr, sPutL, fT, fOp2, fOp1, fCall, gets, fV, fC, fF, frz, Op.get, aNil, aB, aF, owd, L2.atI, L2.ixN, outL, inL, fCallF, callF, toLs, slotsOf, backL, dVals, fLst, fTup, vN, wipeR, backR, calmR, fMut, sPar, sFor, fLc, fRange1, fAnd, fOr, fNot, fB, sFldP, fMeth, fMethQ, fMake, fIterL, fIterT, fFld, ftYes, vT, vL, fEnum]
theorem Sm_2 : ∀ r : List Int, Sm [2] r = (r.map fun x => x * x).sum
  | [] => rfl
  | x :: r => by
    rw [Sm, Sm_2 r, Sm_nil]
    have : (2 : Int).toNat = 2 := rfl
    rw [this, Int.pow_succ, Int.pow_succ, Int.pow_zero]
    simp [retL, gN, sNx, sSeq, sSet, sIf, sRet, sExpr, sPutL, fT, fOp2, fOp1, fCall, gets, fV, fC, fF, frz, Op.get, aNil, aB, aF, owd, L2.atI, L2.ixN, outL, inL, fCallF, callF, toLs, slotsOf, backL, dVals, fLst, fTup, vN, wipeR, backR, calmR, fMut, sPar, sFor, fLc, fRange1, fAnd, fOr, fNot, fB, sFldP, fMeth, fMethQ, fMake, fIterL, fIterT, fFld, ftYes, vT, vL, fEnum]
def enI : Nat → List Int → List (Int × Int)
  | _, [] => []
  | n, x :: r => ((n : Int), x) :: enI (n + 1) r
def wS (n : Nat) (r : List Int) : Int := ((enI n r).map fun p => p.1 * p.2).sum
theorem wS_succ : ∀ (r : List Int) (n : Nat), wS (n + 1) r = wS n r + r.sum
  | [], n => rfl
  | x :: r, n => by
    have h := wS_succ r (n + 1)
    unfold wS at h ⊢
    simp only [enI, List.map_cons, List.sum_cons]
    rw [h]
    have : (((n + 1 : Nat) : Int)) * x = (n : Int) * x + x := by rw [Int.natCast_add, Int.add_mul]; simp [retL, gN, sNx, sSeq, sSet, sIf, sRet, sExpr, sPutL, fT, fOp2, fOp1, fCall, gets, fV, fC, fF, frz, Op.get, aNil, aB, aF, owd, L2.atI, L2.ixN, outL, inL, fCallF, callF, toLs, slotsOf, backL, dVals, fLst, fTup, vN, wipeR, backR, calmR, fMut, sPar, sFor, fLc, fRange1, fAnd, fOr, fNot, fB, sFldP, fMeth, fMethQ, fMake, fIterL, fIterT, fFld, ftYes, vT, vL, fEnum]
    omega
theorem Sm_01 : ∀ r : List Int, Sm [0, 1] r = wS 0 r
  | [] => rfl
  | x :: r => by
    rw [Sm, Sm_01 r, Sm_1]
    have h := wS_succ r 0
    have e : wS 0 (x :: r) = 0 * x + wS 1 r := by simp [retL, gN, sNx, sSeq, sSet, sIf, sRet, sExpr, sPutL, fT, fOp2, fOp1, fCall, gets, fV, fC, fF, frz, Op.get, aNil, aB, aF, owd, L2.atI, L2.ixN, outL, inL, fCallF, callF, toLs, slotsOf, backL, dVals, fLst, fTup, vN, wipeR, backR, calmR, fMut, sPar, sFor, fLc, fRange1, fAnd, fOr, fNot, fB, sFldP, fMeth, fMethQ, fMake, fIterL, fIterT, fFld, ftYes, vT, vL, fEnum, wS, enI]
    rw [e, h]
    simp [retL, gN, sNx, sSeq, sSet, sIf, sRet, sExpr, sPutL, fT, fOp2, fOp1, fCall, gets, fV, fC, fF, frz, Op.get, aNil, aB, aF, owd, L2.atI, L2.ixN, outL, inL, fCallF, callF, toLs, slotsOf, backL, dVals, fLst, fTup, vN, wipeR, backR, calmR, fMut, sPar, sFor, fLc, fRange1, fAnd, fOr, fNot, fB, sFldP, fMeth, fMethQ, fMake, fIterL, fIterT, fFld, ftYes, vT, vL, fEnum]
    omega
theorem enum_en : ∀ (n : Nat) (r : List Int), enumD n (r.map D.int) = (enI n r).map fun p => D.tup [.int p.1, .int p.2]
  | _, [] => rfl
  | n, x :: r => by simp [retL, gN, sNx, sSeq, sSet, sIf, sRet, sExpr, sPutL, fT, fOp2, fOp1, fCall, gets, fV, fC, fF, frz, Op.get, aNil, aB, aF, owd, L2.atI, L2.ixN, outL, inL, fCallF, callF, toLs, slotsOf, backL, dVals, fLst, fTup, vN, wipeR, backR, calmR, fMut, sPar, sFor, fLc, fRange1, fAnd, fOr, fNot, fB, sFldP, fMeth, fMethQ, fMake, fIterL, fIterT, fFld, ftYes, vT, vL, fEnum, enumD, enI, enum_en (n + 1) r]
theorem enI_mem : ∀ {n : Nat} {r : List Int} {p : Int × Int}, p ∈ enI n r → 0 ≤ p.1 ∧ p.1 < n + r.length ∧ p.2 ∈ r
  | n, [], p, h => by cases h
  | n, x :: r, p, h => by
    rcases List.mem_cons.mp h with rfl | h
    · exact ⟨by simp [retL, gN, sNx, sSeq, sSet, sIf, sRet, sExpr, sPutL, fT, fOp2, fOp1, fCall, gets, fV, fC, fF, frz, Op.get, aNil, aB, aF, owd, L2.atI, L2.ixN, outL, inL, fCallF, callF, toLs, slotsOf, backL, dVals, fLst, fTup, vN, wipeR, backR, calmR, fMut, sPar, sFor, fLc, fRange1, fAnd, fOr, fNot, fB, sFldP, fMeth, fMethQ, fMake, fIterL, fIterT, fFld, ftYes, vT, vL, fEnum], by simp [retL, gN, sNx, sSeq, sSet, sIf, sRet, sExpr, sPutL, fT, fOp2, fOp1, fCall, gets, fV, fC, fF, frz, Op.get, aNil, aB, aF, owd, L2.atI, L2.ixN, outL, inL, fCallF, callF, toLs, slotsOf, backL, dVals, fLst, fTup, vN, wipeR, backR, calmR, fMut, sPar, sFor, fLc, fRange1, fAnd, fOr, fNot, fB, sFldP, fMeth, fMethQ, fMake, fIterL, fIterT, fFld, ftYes, vT, vL, fEnum]; omega, List.mem_cons_self ..⟩
    · obtain ⟨a, b, c⟩ := enI_mem h
      exact ⟨a, by simp at b ⊢; omega, List.mem_cons_of_mem _ c⟩
theorem enI_len : ∀ (n : Nat) (r : List Int), (enI n r).length = r.length
  | _, [] => rfl
  | n, x :: r => by simp [retL, gN, sNx, sSeq, sSet, sIf, sRet, sExpr, sPutL, fT, fOp2, fOp1, fCall, gets, fV, fC, fF, frz, Op.get, aNil, aB, aF, owd, L2.atI, L2.ixN, outL, inL, fCallF, callF, toLs, slotsOf, backL, dVals, fLst, fTup, vN, wipeR, backR, calmR, fMut, sPar, sFor, fLc, fRange1, fAnd, fOr, fNot, fB, sFldP, fMeth, fMethQ, fMake, fIterL, fIterT, fFld, ftYes, vT, vL, fEnum, enI, enI_len (n + 1) r]
/-! ### the law's own functions -/
theorem wf_ok {l : List Int} (hl : WOk l) : F_word_formula [.fz (intsL l)] = some (.ow none (formD [(1, l)]), [.fz (intsL l)]) := by
  have e := init_ok (z := [(1, l)]) ⟨by simp [retL, gN, sNx, sSeq, sSet, sIf, sRet, sExpr, sPutL, fT, fOp2, fOp1, fCall, gets, fV, fC, fF, frz, Op.get, aNil, aB, aF, owd, L2.atI, L2.ixN, outL, inL, fCallF, callF, toLs, slotsOf, backL, dVals, fLst, fTup, vN, wipeR, backR, calmR, fMut, sPar, sFor, fLc, fRange1, fAnd, fOr, fNot, fB, sFldP, fMeth, fMethQ, fMake, fIterL, fIterT, fFld, ftYes, vT, vL, fEnum], fun t ht => by rw [List.mem_singleton.mp ht]; exact ⟨(by decide : (-(10 ^ 7) : Int) ≤ 1), (by decide : (1 : Int) ≤ 10 ^ 7), hl⟩⟩
  have e' : F_Formula___init__ [.ow none (.ins "Formula" []), .fz (.lst [.tup [.int 1, intsL l]])] = some (.fz .non, [.ow none (formD [(1, l)]), .fz (.lst [.tup [.int 1, intsL l]])]) := e
  clear e
  have h1 : 1 ≤ sizeLine := by decide
  have h2 : 2 ≤ sizeLine := by decide
  unfold F_word_formula S_word_formula
  generalize F_Formula___init__ = F at e' ⊢
  simp [retL, gN, sNx, sSeq, sSet, sIf, sRet, sExpr, sPutL, fT, fOp2, fOp1, fCall, gets, fV, fC, fF, frz, Op.get, aNil, aB, aF, owd, L2.atI, L2.ixN, outL, inL, fCallF, callF, toLs, slotsOf, backL, dVals, fLst, fTup, vN, wipeR, backR, calmR, fMut, sPar, sFor, fLc, fRange1, fAnd, fOr, fNot, fB, sFldP, fMeth, fMethQ, fMake, fIterL, fIterT, fFld, ftYes, vT, vL, fEnum, fnS, e', h1, h2]
theorem ch_step {n k f t a b c g : Int} (g3 : DV.gSub (.int n) (.int t) = some (.val (.int a))) (g1 : gMul (.int f) (.int a) = some (.val (.int b))) (g4 : gAdd (.int t) (.int 1) = some (.val (.int c))) (g2 : gFdiv (.int b) (.int c) = some (.val (.int g))) :
    sSet 2 (fOp2 gFdiv (fOp2 gMul (fV 2) (fOp2 DV.gSub (fV 0) (fV 3))) (fOp2 gAdd (fV 3) (fC (.int 1)))) [some (.fz (.int n)), some (.fz (.int k)), some (.fz (.int f)), some (.fz (.int t))] = some (.nx [some (.fz (.int n)), some (.fz (.int k)), some (.fz (.int g)), some (.fz (.int t))]) :=
  sSet_ok (o := .val (.int g)) (fOp2_ok (fOp2_ok (o := .val (.int b)) rfl (fOp2_ok (o := .val (.int a)) rfl rfl rfl rfl g3) rfl rfl g1) (fOp2_ok (o := .val (.int c)) rfl rfl rfl rfl g4) rfl rfl g2) rfl
theorem r1 {fa : FA} {ρ ρ' : Rho} {j : Int} (h : fa ρ = some ([.val (.int j)], ρ')) (ro : rangeOk 0 j = true) : fRange1 fa ρ = some (rangeD 0 1 j.toNat, ρ') := by
  have e : fRange1 fa ρ = (if rangeOk 0 j = true then some (rangeD 0 1 j.toNat, ρ') else none) := by
    unfold fRange1
    rw [h]
    rfl
  rw [e, if_pos ro]
theorem ch_arg {n k f : Int} {y : Option L} : aB (fV 1) aNil [some (.fz (.int n)), some (.fz (.int k)), some (.fz (.int f)), y] = some ([.val (.int k)], [some (.fz (.int n)), some (.fz (.int k)), some (.fz (.int f)), y]) := rfl
theorem chosen_ok {n k : Nat} (hn : n ≤ 40) (hk : k ≤ 10) : F__law_chosen [.fz (.int n), .fz (.int k)] = some (.fz (.int (Ch n k)), [.fz (.int n), .fz (.int k)]) := by
  obtain ⟨ρ', q1, q2⟩ := forL_run (g := vN 3) (body := (sSet 2 (fOp2 gFdiv (fOp2 gMul (fV 2) (fOp2 DV.gSub (fV 0) (fV 3))) (fOp2 gAdd (fV 3) (fC (.int 1))))))
    (fun r ρ => ∃ (t : Nat) (y : Option L), t ≤ 10 ∧ r = (List.range (k - t)).map (fun (i : Nat) => D.int ((t + i : Nat) : Int)) ∧ t ≤ k ∧ ρ = [some (.fz (.int n)), some (.fz (.int k)), some (.fz (.int (Ch n t))), y])
    (by
      rintro d r ρ ⟨t, y, ht, hr, htk, rfl⟩
      have hlt : t < k := by
        rcases Nat.lt_or_ge t k with h | h
        · exact h
        · rw [Nat.sub_eq_zero_of_le h] at hr; cases hr
      obtain ⟨j, hj⟩ : ∃ j, k - t = j + 1 := ⟨k - t - 1, by omega⟩
      rw [hj, List.range_succ_eq_map, List.map_cons] at hr
      obtain ⟨rfl, rfl⟩ := List.cons.inj hr
      have m1 : MulOk (Ch n t) ((n : Int) - ((t + 0 : Nat) : Int)) := mulOk_small2 (by omega)
      have g1 : gMul (.int (Ch n t)) (.int ((n : Int) - ((t + 0 : Nat) : Int))) = some (.val (.int ((Ch n t : Int) * ((n : Int) - ((t + 0 : Nat) : Int))))) := by rw [gMul_i, if_pos m1]
      have d1 : (((t + 0 : Nat) : Int) + 1) ≠ 0 ∧ (((t + 0 : Nat) : Int) + 1).natAbs.log2 < 9000 := ⟨by omega, Nat.lt_of_lt_of_le (PySem.Flt.log2_lt_of (k := 8) (by decide) (by omega)) (by decide)⟩
      have g2 : gFdiv (.int ((Ch n t : Int) * ((n : Int) - ((t + 0 : Nat) : Int)))) (.int (((t + 0 : Nat) : Int) + 1)) = some (.val (.int (Ch n (t + 1)))) := by
        rw [gFdiv_i, if_pos d1]
        have h := Ch_step n t
        have e : ((Ch n t : Int) * ((n : Int) - ((t + 0 : Nat) : Int))) = (Ch n (t + 1) : Int) * (((t + 0 : Nat) : Int) + 1) := by
          rw [Nat.add_zero, ← h]
          congr 1
        rw [e, Int.mul_fdiv_cancel _ d1.1]
      have g3 : DV.gSub (.int n) (.int ((t + 0 : Nat) : Int)) = some (.val (.int ((n : Int) - ((t + 0 : Nat) : Int)))) := gSub_i
      have g4 : gAdd (.int ((t + 0 : Nat) : Int)) (.int 1) = some (.val (.int (((t + 0 : Nat) : Int) + 1))) := gAdd_i
      clear m1 d1
      refine ⟨_, [some (.fz (.int n)), some (.fz (.int k)), some (.fz (.int (Ch n (t + 1)))), some (.fz (.int ((t + 0 : Nat) : Int)))], rfl, .inl (ch_step g3 g1 g4 g2), ⟨t + 1, _, by omega, ?_, hlt, rfl⟩⟩
      · have : k - (t + 1) = j := by omega
        rw [this, List.map_map]
        apply List.map_congr_left
        intro i _
        show D.int ((t + (i + 1) : Nat) : Int) = D.int ((t + 1 + i : Nat) : Int)
        exact congrArg D.int (by omega))
    (rangeD 0 1 k) [some (.fz (.int n)), some (.fz (.int k)), some (.fz (.int 1)), none] ⟨0, none, by omega, by
      unfold rangeD
      rw [Nat.sub_zero]
      apply List.map_congr_left
      intro i _
      show D.int (0 + (i : Int) * 1) = D.int ((0 + i : Nat) : Int)
      exact congrArg D.int (by omega), Nat.zero_le _, by rw [Ch_zero]; rfl⟩
  obtain ⟨t, y, ht, hr, htk, rfl⟩ := q2
  have : t = k := by
    rcases Nat.lt_or_ge t k with h | h
    · obtain ⟨j, hj⟩ : ∃ j, k - t = j + 1 := ⟨k - t - 1, by omega⟩
      rw [hj, List.range_succ_eq_map] at hr
      cases hr
    · omega
  subst this
  have ro : rangeOk 0 (t : Int) = true := by
    unfold rangeOk
    rw [decide_eq_true (by decide), decide_eq_true (by decide), decide_eq_true (by omega), decide_eq_true (by omega)]; rfl
  have il : fRange1 (aB (fV 1) aNil) [some (.fz (.int n)), some (.fz (.int t)), some (.fz (.int 1)), none] = some (rangeD 0 1 t, [some (.fz (.int n)), some (.fz (.int t)), some (.fz (.int 1)), none]) := by
    have e := r1 (ch_arg (n := n) (k := t) (f := 1) (y := none)) ro
    rw [Int.toNat_natCast] at e
    exact e
  exact fnS_ret (ρ := [some (.fz (.int n)), some (.fz (.int t)), some (.fz (.int (Ch n t))), y]) rfl (sSeq_nx (ρ1 := [some (.fz (.int n)), some (.fz (.int t)), some (.fz (.int 1)), none]) rfl (sSeq_nx (sFor_ok il q1) rfl)) rfl
end DV

set_option Elab.async false
set_option linter.all false
set_option maxRecDepth 100000
set_option maxHeartbeats 1000000
set_option exponentiation.threshold 2000
namespace DV
open PySem PySem.Spec PyProof.Rows L2
theorem w_step {F : FN} {G : D → D → Option Op} {t : Int × List Int} {r : List Int} {e0 : Option L} {x : Int} (e1 : F [.fz (wdD t.2), .fz (intsL r)] = some (.fz (.int x), [.fz (wdD t.2), .fz (intsL r)])) (g1 : G (.int t.1) (.int x) = some (.val (.int (t.1 * x)))) : fF (fOp2 G (fV 2) (fCallF F (aF (fV 3) (aF (fV 1) aNil)))) [e0, some (.fz (intsL r)), some (.fz (.int t.1)), some (.fz (wdD t.2))] = some (.int (t.1 * x), [e0, some (.fz (intsL r)), some (.fz (.int t.1)), some (.fz (wdD t.2))]) := by
  simp [retL, gN, sNx, sSeq, sSet, sIf, sRet, sExpr, sPutL, fT, fOp2, fOp1, fCall, gets, fV, fC, fF, frz, Op.get, aNil, aB, aF, owd, L2.atI, L2.ixN, outL, inL, fCallF, callF, toLs, slotsOf, backL, dVals, fLst, fTup, vN, wipeR, backR, calmR, fMut, sPar, sFor, fLc, fRange1, fAnd, fOr, fNot, fB, sFldP, fMeth, fMethQ, fMake, fIterL, fIterT, fFld, ftYes, vT, vL, fEnum, fO, e1, g1]
theorem w_q {z : Lot} {r : List Int} (hz : ZOk z) (hr : ROk r) {e0 : Option L} : lcL [2, 3] (vT [(vN 2), (vN 3)]) ftYes (fOp2 gMul (fV 2) (fCallF F_sum_on (aF (fV 3) (aF (fV 1) aNil)))) (z.map ktD) [] [e0, some (.fz (intsL r)), none, none] = some ([] ++ z.map (fun t => D.int (t.1 * Sm t.2 r)), [e0, some (.fz (intsL r)), none, none]) :=
  lcL_mapF (vs := [2, 3]) (g := vT [(vN 2), (vN 3)]) (ft := ftYes) (fe := fOp2 gMul (fV 2) (fCallF F_sum_on (aF (fV 3) (aF (fV 1) aNil)))) (ρ := [e0, some (.fz (intsL r)), none, none])
    ktD (fun t => D.int (t.1 * Sm t.2 r)) (zs := z) (acc := []) (fun t ht => by
      obtain ⟨a, b, c⟩ := hz.2 t ht
      exact ⟨[e0, some (.fz (intsL r)), some (.fz (.int t.1)), some (.fz (wdD t.2))], _, _, rfl, rfl, w_step (sum_on_ok c hr) (b2 (b1 a b)), rfl⟩) (by have := hz.1; rw [sizeLine_eq]; simp [retL, gN, sNx, sSeq, sSet, sIf, sRet, sExpr, sPutL, fT, fOp2, fOp1, fCall, gets, fV, fC, fF, frz, Op.get, aNil, aB, aF, owd, L2.atI, L2.ixN, outL, inL, fCallF, callF, toLs, slotsOf, backL, dVals, fLst, fTup, vN, wipeR, backR, calmR, fMut, sPar, sFor, fLc, fRange1, fAnd, fOr, fNot, fB, sFldP, fMeth, fMethQ, fMake, fIterL, fIterT, fFld, ftYes, vT, vL, fEnum, fO]; omega)
theorem valF_ok {z : Lot} {r : List Int} (hz : ZOk z) (hr : ROk r) : F_Formula_value_on [.fz (formD z), .fz (intsL r)] = some (.fz (.int (Vl z r)), [.fz (formD z), .fz (intsL r)]) := by
  have g1 : gSum [.lst ([] ++ z.map fun t => D.int (t.1 * Sm t.2 r))] = some (.val (.int (Vl z r))) := by
    rw [gSum_l, List.nil_append, v_sum]
    rfl
  have il : fIterT (fFld ["Formula"] "kept" (fV 0)) [some (.fz (formD z)), some (.fz (intsL r)), none, none] = some (z.map ktD, [some (.fz (formD z)), some (.fz (intsL r)), none, none]) := rfl
  exact fnS_ret (ρ := [some (.fz (formD z)), some (.fz (intsL r)), none, none]) rfl (sRet_ok (fCall1_ok (fLc_ok il rfl (w_q hz hr) rfl) rfl g1) rfl) rfl
/-- the one-term formula of l -/
theorem Vl_one {l r : List Int} : Vl [(1, l)] r = Sm l r := by simp [retL, gN, sNx, sSeq, sSet, sIf, sRet, sExpr, sPutL, fT, fOp2, fOp1, fCall, gets, fV, fC, fF, frz, Op.get, aNil, aB, aF, owd, L2.atI, L2.ixN, outL, inL, fCallF, callF, toLs, slotsOf, backL, dVals, fLst, fTup, vN, wipeR, backR, calmR, fMut, sPar, sFor, fLc, fRange1, fAnd, fOr, fNot, fB, sFldP, fMeth, fMethQ, fMake, fIterL, fIterT, fFld, ftYes, vT, vL, fEnum, fO, Vl]
theorem z1 {l : List Int} (hl : WOk l) : ZOk [(1, l)] := ⟨by simp [retL, gN, sNx, sSeq, sSet, sIf, sRet, sExpr, sPutL, fT, fOp2, fOp1, fCall, gets, fV, fC, fF, frz, Op.get, aNil, aB, aF, owd, L2.atI, L2.ixN, outL, inL, fCallF, callF, toLs, slotsOf, backL, dVals, fLst, fTup, vN, wipeR, backR, calmR, fMut, sPar, sFor, fLc, fRange1, fAnd, fOr, fNot, fB, sFldP, fMeth, fMethQ, fMake, fIterL, fIterT, fFld, ftYes, vT, vL, fEnum, fO], fun t ht => by rw [List.mem_singleton.mp ht]; exact ⟨(by decide : (-(10 ^ 7) : Int) ≤ 1), (by decide : (1 : Int) ≤ 10 ^ 7), hl⟩⟩
end DV

set_option Elab.async false
set_option linter.all false
set_option maxRecDepth 100000
set_option maxHeartbeats 1000000
set_option exponentiation.threshold 2000
namespace DV
open PySem PySem.Spec PyProof.Rows L2
abbrev E5 (d : D) (y1 y2 y3 y4 y5 y6 y7 y8 y9 : Option L) : Rho := [some (.ow (some 0) d), y1, y2, y3, y4, y5, y6, y7, y8, y9, none, none]
theorem gp6 : gPow (.int 10) (.int 6) = some (.val (.int 1000000)) := by
  have pk : PowOk 10 6 := by decide
  rw [gPow_i, if_pos pk]; rfl
theorem s1_ok {n : Nat} {d : D} (h : PoolOk n d) (hn : n < 2 ^ 38) : ∃ (l r : List Int) (d' : D), sPar 6 7 (fCallF F__law_letters (aB (fV 0) (aF (fC (.int 5)) (aF (fC (.int 4)) aNil)))) (fCallF F__law_line (aB (fV 0) (aF (fC (.int 39)) (aF (fOp2 gPow (fC (.int 10)) (fC (.int 6))) aNil)))) (E5 d none none none none none none none none none) = some (.nx (E5 d' none none none none none (some (.ow none (intsL l))) (some (.ow none (intsL r))) none none)) ∧ WOk l ∧ r.length ≤ 39 ∧ ROk r ∧ PoolOk (n + 7000) d' := by
  obtain ⟨l, d1, e1, b1, c1, p1⟩ := letters_ok h (by omega) (L := 5) (g := 4) (by decide) (by decide) (by decide) (by decide) none
  obtain ⟨r, d2, e2, b2, c2, p2⟩ := line_ok p1 (by omega) (L := 39) (G := 1000000) (by decide) (by decide) (by decide) (by decide) none
  have gp := gp6
  refine ⟨l, r, d2, ?_, ⟨by omega, fun a ha => by have := c1 a ha; omega⟩, by omega, ⟨by omega, fun x hx => by have := c2 x hx; omega⟩, p2.mono (by omega)⟩
  generalize F__law_letters = F1 at e1 ⊢
  generalize F__law_line = F2 at e2 ⊢
  generalize gPow = P at gp ⊢
  simp [retL, gN, sNx, sSeq, sSet, sIf, sRet, sExpr, sPutL, fT, fOp2, fOp1, fCall, gets, fV, fC, fF, frz, Op.get, aNil, aB, aF, owd, L2.atI, L2.ixN, outL, inL, fCallF, callF, toLs, slotsOf, backL, dVals, fLst, fTup, vN, wipeR, backR, calmR, fMut, sPar, sFor, fLc, fRange1, fAnd, fOr, fNot, fB, sFldP, fMeth, fMethQ, fMake, fIterL, fIterT, fFld, ftYes, vT, vL, fEnum, fO, e1, e2, gp]
theorem s2_step {F1 F2 : FN} {P M A S : D → D → Option Op} {d d1 z : D} {l : List Int} {y7 : Option L} {v w c6 c7 c8 : Int} (e2 : F1 [.fz (intsL l)] = some (.ow none z, [.fz (intsL l)])) (e1 : F2 [.ow none d, .fz (.int c8)] = some (.fz (.int v), [.ow none d1, .fz (.int c8)])) (gp : P (.int 10) (.int 6) = some (.val (.int c6))) (gm : M (.int 2) (.int c6) = some (.val (.int c7))) (ga : A (.int c7) (.int 1) = some (.val (.int c8))) (gs : S (.int v) (.int c6) = some (.val (.int w))) :
    sPar 8 9 (fCallF F1 (aF (fV 6) aNil)) (fOp2 S (fCallF F2 (aB (fV 0) (aF (fOp2 A (fOp2 M (fC (.int 2)) (fOp2 P (fC (.int 10)) (fC (.int 6)))) (fC (.int 1))) aNil))) (fOp2 P (fC (.int 10)) (fC (.int 6)))) (E5 d none none none none none (some (.ow none (intsL l))) y7 none none) = some (.nx (E5 d1 none none none none none (some (.fz (intsL l))) y7 (some (.ow none z)) (some (.fz (.int w))))) := by
  simp [retL, gN, sNx, sSeq, sSet, sIf, sRet, sExpr, sPutL, fT, fOp2, fOp1, fCall, gets, fV, fC, fF, frz, Op.get, aNil, aB, aF, owd, L2.atI, L2.ixN, outL, inL, fCallF, callF, toLs, slotsOf, backL, dVals, fLst, fTup, vN, wipeR, backR, calmR, fMut, sPar, sFor, fLc, fRange1, fAnd, fOr, fNot, fB, sFldP, fMeth, fMethQ, fMake, fIterL, fIterT, fFld, ftYes, vT, vL, fEnum, fO, e1, e2, gp, gm, ga, gs]
theorem gm6 : gMul (.int 2) (.int 1000000) = some (.val (.int 2000000)) := by rw [gMul_i, if_pos (mulOk_small (by decide))]; rfl
theorem s2_ok {n : Nat} {d : D} {l : List Int} {y7 : Option L} (h : PoolOk n d) (hn : n < 2 ^ 38) (hl : WOk l) : ∃ (x : Int) (d' : D), sPar 8 9 (fCallF F_word_formula (aF (fV 6) aNil)) (fOp2 DV.gSub (fCallF F__law_draw (aB (fV 0) (aF (fOp2 gAdd (fOp2 gMul (fC (.int 2)) (fOp2 gPow (fC (.int 10)) (fC (.int 6)))) (fC (.int 1))) aNil))) (fOp2 gPow (fC (.int 10)) (fC (.int 6)))) (E5 d none none none none none (some (.ow none (intsL l))) y7 none none) = some (.nx (E5 d' none none none none none (some (.fz (intsL l))) y7 (some (.ow none (formD [(1, l)]))) (some (.fz (.int x))))) ∧ (-(10 ^ 6) ≤ x ∧ x ≤ 10 ^ 6) ∧ PoolOk (n + 1) d' := by
  obtain ⟨v, d1, e1, b1, c1, p1⟩ := draw_ok h (by omega) (m := 2000001) (by decide) (by decide) none
  exact ⟨v - 1000000, d1, s2_step (wf_ok hl) e1 gp6 gm6 gAdd_i gSub_i, by omega, p1⟩
theorem val1 {l r : List Int} (hl : WOk l) (hr : ROk r) : F_Formula_value_on [.ow none (formD [(1, l)]), .fz (intsL r)] = some (.fz (.int (Sm l r)), [.ow none (formD [(1, l)]), .fz (intsL r)]) := by
  have e := value_on_ok (x := none) (z1 hl) hr
  rw [Vl_one] at e
  exact e
theorem valF1 {l r : List Int} (hl : WOk l) (hr : ROk r) : F_Formula_value_on [.fz (formD [(1, l)]), .fz (intsL r)] = some (.fz (.int (Sm l r)), [.fz (formD [(1, l)]), .fz (intsL r)]) := by
  have e := valF_ok (z1 hl) hr
  rw [Vl_one] at e
  exact e
theorem s3_step {F : FN} {d z r : D} {v : Int} {y1 y2 y3 y4 y5 y6 y9 : Option L} (e : F [.ow none z, .fz r] = some (.fz (.int v), [.ow none z, .fz r])) (ok : okSelf "Formula" "value_on" (.slot 8) (E5 d y1 y2 y3 y4 y5 y6 (some (.ow none r)) (some (.ow none z)) y9) = true) : sSet 1 (fMeth "Formula" "value_on" F (fV 8) (aF (fV 7) aNil)) (E5 d y1 y2 y3 y4 y5 y6 (some (.ow none r)) (some (.ow none z)) y9) = some (.nx (E5 d (some (.fz (.int v))) y2 y3 y4 y5 y6 (some (.fz r)) (some (.ow none z)) y9)) := by
  simp [retL, gN, sNx, sSeq, sSet, sIf, sRet, sExpr, sPutL, fT, fOp2, fOp1, fCall, gets, fV, fC, fF, frz, Op.get, aNil, aB, aF, owd, L2.atI, L2.ixN, outL, inL, fCallF, callF, toLs, slotsOf, backL, dVals, fLst, fTup, vN, wipeR, backR, calmR, fMut, sPar, sFor, fLc, fRange1, fAnd, fOr, fNot, fB, sFldP, fMeth, fMethQ, fMake, fIterL, fIterT, fFld, ftYes, vT, vL, fEnum, fO, e, ok]
theorem s3_ok {d : D} {l r : List Int} {y1 y2 y3 y4 y5 y6 y9 : Option L} (hl : WOk l) (hr : ROk r) : sSet 1 (fMeth "Formula" "value_on" F_Formula_value_on (fV 8) (aF (fV 7) aNil)) (E5 d y1 y2 y3 y4 y5 y6 (some (.ow none (intsL r))) (some (.ow none (formD [(1, l)]))) y9) = some (.nx (E5 d (some (.fz (.int (Sm l r)))) y2 y3 y4 y5 y6 (some (.fz (intsL r))) (some (.ow none (formD [(1, l)]))) y9)) := s3_step (val1 hl hr) rfl
theorem ne_nil {l : List Int} : gNe (intsL l) (.lst []) = some (.val (.bl (!l.isEmpty))) := by
  unfold gNe
  rw [show eqPy (intsL l) (.lst []) = some (l.map D.int).isEmpty from Good.nil (k := 1) Good.intsL (by decide)]
  cases l <;> rfl
theorem ix_last {m : List Int} {a : Int} : gIx (intsL (m ++ [a])) (.int (-1)) = some (.val (.int a)) := by
  show (L2.atI ((m ++ [a]).map D.int) (-1)).map Op.val = _
  have e1 : L2.ixN ((m ++ [a]).map D.int).length (-1) = some m.length := by
    have hl : ((m ++ [a]).map D.int).length = m.length + 1 := by rw [List.length_map, List.length_append]; rfl
    rw [hl]
    unfold L2.ixN
    rw [if_neg (by decide), if_pos (by omega)]
    exact congrArg some (by omega)
  have e : L2.atI ((m ++ [a]).map D.int) (-1) = some (.int a) := by
    unfold L2.atI
    rw [e1]
    show ((m ++ [a]).map D.int)[m.length]? = _
    rw [List.getElem?_map, List.getElem?_append_right (Nat.le_refl _), Nat.sub_self]
    rfl
  rw [e]; rfl
theorem sl_last {m : List Int} {a : Int} : slD (intsL (m ++ [a])) none (some (-1)) = some (.own (intsL m)) := by
  unfold intsL
  rw [slD_l]
  congr 3
  unfold cutD HT.sIx
  simp [retL, gN, sNx, sSeq, sSet, sIf, sRet, sExpr, sPutL, fT, fOp2, fOp1, fCall, gets, fV, fC, fF, frz, Op.get, aNil, aB, aF, owd, L2.atI, L2.ixN, outL, inL, fCallF, callF, toLs, slotsOf, backL, dVals, fLst, fTup, vN, wipeR, backR, calmR, fMut, sPar, sFor, fLc, fRange1, fAnd, fOr, fNot, fB, sFldP, fMeth, fMethQ, fMake, fIterL, fIterT, fFld, ftYes, vT, vL, fEnum, fO]
  rw [show ((-1 : Int) + ((m.length : Int) + 1)).toNat = m.length by omega]
  rw [List.take_append_of_le_length (by simp [retL, gN, sNx, sSeq, sSet, sIf, sRet, sExpr, sPutL, fT, fOp2, fOp1, fCall, gets, fV, fC, fF, frz, Op.get, aNil, aB, aF, owd, L2.atI, L2.ixN, outL, inL, fCallF, callF, toLs, slotsOf, backL, dVals, fLst, fTup, vN, wipeR, backR, calmR, fMut, sPar, sFor, fLc, fRange1, fAnd, fOr, fNot, fB, sFldP, fMeth, fMethQ, fMake, fIterL, fIterT, fFld, ftYes, vT, vL, fEnum, fO])]
  rw [List.take_of_length_le (by simp [retL, gN, sNx, sSeq, sSet, sIf, sRet, sExpr, sPutL, fT, fOp2, fOp1, fCall, gets, fV, fC, fF, frz, Op.get, aNil, aB, aF, owd, L2.atI, L2.ixN, outL, inL, fCallF, callF, toLs, slotsOf, backL, dVals, fLst, fTup, vN, wipeR, backR, calmR, fMut, sPar, sFor, fLc, fRange1, fAnd, fOr, fNot, fB, sFldP, fMeth, fMethQ, fMake, fIterL, fIterT, fFld, ftYes, vT, vL, fEnum, fO])]
theorem s4_step {F1 F2 F3 : FN} {A M X N : D → D → Option Op} {d : D} {l m : List Int} {a x p s t u v : Int} {z r : D} {y2 y3 y4 y5 y8 : Option L} (hs : slD (intsL l) none (some (-1)) = some (.own (intsL m))) (hx : X (intsL l) (.int (-1)) = some (.val (.int a))) (h1 : F1 [.fz (.int x), .fz (.int a)] = some (.fz (.int p), [.fz (.int x), .fz (.int a)])) (h2 : F2 [.fz (intsL m)] = some (.ow none z, [.fz (intsL m)])) (hn : N (intsL l) (.lst []) = some (.val (.bl true)))
    (h3 : F3 [.fz z, .fz r] = some (.fz (.int s), [.fz z, .fz r])) (hm : M (.int p) (.int s) = some (.val (.int t))) (ha : A (.int u) (.int t) = some (.val (.int v))) (ok : ∀ ρ, okSelf "Formula" "value_on" (.val z) ρ = true) :
    sIf (fT (fOp2 N (fV 6) (fLst aNil))) (sSet 1 (fOp2 A (fV 1) (fOp2 M (fCallF F1 (aF (fV 9) (aF (fOp2 X (fV 6) (fOp1 gNeg (fC (.int 1)))) aNil))) (fMeth "Formula" "value_on" F3 (fO (fF (fCallF F2 (aF (fSl (fV 6) fNoP (fP (fOp1 gNeg (fC (.int 1))))) aNil)))) (aF (fV 7) aNil))))) sNx (E5 d (some (.fz (.int u))) y2 y3 y4 y5 (some (.fz (intsL l))) (some (.fz r)) y8 (some (.fz (.int x)))) = some (.nx (E5 d (some (.fz (.int v))) y2 y3 y4 y5 (some (.fz (intsL l))) (some (.fz r)) y8 (some (.fz (.int x))))) := by
  have h0 : 0 ≤ sizeLine := Nat.zero_le _
  simp [retL, gN, sNx, sSeq, sSet, sIf, sRet, sExpr, sPutL, fT, fOp2, fOp1, fCall, gets, fV, fC, fF, frz, Op.get, aNil, aB, aF, owd, L2.atI, L2.ixN, outL, inL, fCallF, callF, toLs, slotsOf, backL, dVals, fLst, fTup, vN, wipeR, backR, calmR, fMut, sPar, sFor, fLc, fRange1, fAnd, fOr, fNot, fB, sFldP, fMeth, fMethQ, fMake, fIterL, fIterT, fFld, ftYes, vT, vL, fEnum, fO, hs, hx, h1, h2, hn, h3, hm, ha, ok, h0, fSl, fNoP, fP]
theorem Sm_szb {l r : List Int} (hl : WOk l) (hr : ROk r) : (Sm l r).natAbs < 2 ^ 600 := Nat.lt_of_lt_of_le (Sm_sz hl hr) (by decide)
theorem s4_ok {d : D} {l r : List Int} {x : Int} {y2 y3 y4 y5 y8 : Option L} (hl : WOk l) (hr : ROk r) (hx : -(10 ^ 6) ≤ x ∧ x ≤ 10 ^ 6) : sIf (fT (fOp2 gNe (fV 6) (fLst aNil))) (sSet 1 (fOp2 gAdd (fV 1) (fOp2 gMul (fCallF F__law_power (aF (fV 9) (aF (fOp2 gIx (fV 6) (fOp1 gNeg (fC (.int 1)))) aNil))) (fMeth "Formula" "value_on" F_Formula_value_on (fO (fF (fCallF F_word_formula (aF (fSl (fV 6) fNoP (fP (fOp1 gNeg (fC (.int 1))))) aNil)))) (aF (fV 7) aNil))))) sNx (E5 d (some (.fz (.int (Sm l r)))) y2 y3 y4 y5 (some (.fz (intsL l))) (some (.fz (intsL r))) y8 (some (.fz (.int x)))) = some (.nx (E5 d (some (.fz (.int (Sm l (r ++ [x]))))) y2 y3 y4 y5 (some (.fz (intsL l))) (some (.fz (intsL r))) y8 (some (.fz (.int x))))) := by
  rcases List.eq_nil_or_concat l with rfl | ⟨m, a, rfl⟩
  · have hn : gNe (intsL []) (.lst []) = some (.val (.bl false)) := ne_nil
    have h0 : 0 ≤ sizeLine := Nat.zero_le _
    rw [Sm_nil, Sm_nil]
    have hd : fT (fOp2 gNe (fV 6) (fLst aNil)) (E5 d (some (.fz (.int 1))) y2 y3 y4 y5 (some (.fz (intsL []))) (some (.fz (intsL r))) y8 (some (.fz (.int x)))) = some (false, E5 d (some (.fz (.int 1))) y2 y3 y4 y5 (some (.fz (intsL []))) (some (.fz (intsL r))) y8 (some (.fz (.int x)))) := by
      generalize gNe = N at hn ⊢
      simp [retL, gN, sNx, sSeq, sSet, sIf, sRet, sExpr, sPutL, fT, fOp2, fOp1, fCall, gets, fV, fC, fF, frz, Op.get, aNil, aB, aF, owd, L2.atI, L2.ixN, outL, inL, fCallF, callF, toLs, slotsOf, backL, dVals, fLst, fTup, vN, wipeR, backR, calmR, fMut, sPar, sFor, fLc, fRange1, fAnd, fOr, fNot, fB, sFldP, fMeth, fMethQ, fMake, fIterL, fIterT, fFld, ftYes, vT, vL, fEnum, fO, hn, h0]
    exact sIf_f hd rfl
  · rw [List.concat_eq_append] at hl ⊢
    have hm : WOk m := ⟨by have := hl.1; simp at this; omega, fun b hb => hl.2 b (by simp [retL, gN, sNx, sSeq, sSet, sIf, sRet, sExpr, sPutL, fT, fOp2, fOp1, fCall, gets, fV, fC, fF, frz, Op.get, aNil, aB, aF, owd, L2.atI, L2.ixN, outL, inL, fCallF, callF, toLs, slotsOf, backL, dVals, fLst, fTup, vN, wipeR, backR, calmR, fMut, sPar, sFor, fLc, fRange1, fAnd, fOr, fNot, fB, sFldP, fMeth, fMethQ, fMake, fIterL, fIterT, fFld, ftYes, vT, vL, fEnum, fO, hb])⟩
    have hb := hl.2 a (by simp [retL, gN, sNx, sSeq, sSet, sIf, sRet, sExpr, sPutL, fT, fOp2, fOp1, fCall, gets, fV, fC, fF, frz, Op.get, aNil, aB, aF, owd, L2.atI, L2.ixN, outL, inL, fCallF, callF, toLs, slotsOf, backL, dVals, fLst, fTup, vN, wipeR, backR, calmR, fMut, sPar, sFor, fLc, fRange1, fAnd, fOr, fNot, fB, sFldP, fMeth, fMethQ, fMake, fIterL, fIterT, fFld, ftYes, vT, vL, fEnum, fO])
    have e := Sm_snoc a x m r
    rw [e]
    rw [Int.mul_comm]
    refine s4_step sl_last ix_last (power_ok (by omega) hb.1 (by omega)) (wf_ok hm) ?_ (valF1 hm hr) ?_ gAdd_i (fun ρ => rfl)
    · rw [ne_nil]; simp [retL, gN, sNx, sSeq, sSet, sIf, sRet, sExpr, sPutL, fT, fOp2, fOp1, fCall, gets, fV, fC, fF, frz, Op.get, aNil, aB, aF, owd, L2.atI, L2.ixN, outL, inL, fCallF, callF, toLs, slotsOf, backL, dVals, fLst, fTup, vN, wipeR, backR, calmR, fMut, sPar, sFor, fLc, fRange1, fAnd, fOr, fNot, fB, sFldP, fMeth, fMethQ, fMake, fIterL, fIterT, fFld, ftYes, vT, vL, fEnum, fO]
    · rw [gMul_i, if_pos (mulOk_big (Nat.lt_of_le_of_lt (pow_sz hb hx) (by decide)) (Sm_szb hm hr))]
end DV

set_option Elab.async false
set_option linter.all false
set_option maxRecDepth 100000
set_option maxHeartbeats 1000000
set_option exponentiation.threshold 2000
namespace DV
open PySem PySem.Spec PyProof.Rows L2
theorem sl1 : 1 ≤ sizeLine := by decide
theorem sl2 : 2 ≤ sizeLine := by decide
theorem sl3 : 3 ≤ sizeLine := by decide
theorem s5_step {F : FN} {A N : D → D → Option Op} {d z r r' v : D} {x : Int} {y2 y3 y4 y5 y6 : Option L} (ha : A r (.lst [.int x]) = some (.own r')) (e : F [.ow none z, .fz r'] = some (.fz v, [.ow none z, .fz r'])) (hn : N v v = some (.val (.bl false))) (ok : okSelf "Formula" "value_on" (.slot 8) (E5 d (some (.fz v)) y2 y3 y4 y5 y6 (some (.fz r)) (some (.ow none z)) (some (.fz (.int x)))) = true) :
    sIf (fT (fOp2 N (fMeth "Formula" "value_on" F (fV 8) (aF (fOp2 A (fV 7) (fLst (aF (fV 9) aNil))) aNil)) (fV 1))) (sRet (fC (.bl false))) sNx (E5 d (some (.fz v)) y2 y3 y4 y5 y6 (some (.fz r)) (some (.ow none z)) (some (.fz (.int x)))) = some (.nx (E5 d (some (.fz v)) y2 y3 y4 y5 y6 (some (.fz r)) (some (.ow none z)) (some (.fz (.int x))))) := by
  simp [retL, gN, sNx, sSeq, sSet, sIf, sRet, sExpr, sPutL, fT, fOp2, fOp1, fCall, gets, fV, fC, fF, frz, Op.get, aNil, aB, aF, owd, L2.atI, L2.ixN, outL, inL, fCallF, callF, toLs, slotsOf, backL, dVals, fLst, fTup, vN, wipeR, backR, calmR, fMut, sPar, sFor, fLc, fRange1, fAnd, fOr, fNot, fB, sFldP, fMeth, fMethQ, fMake, fIterL, fIterT, fFld, ftYes, vT, vL, fEnum, fO, fIf, ha, e, hn, ok, sl1]
theorem s6_step {F : FN} {A : D → D → Option Op} {d d1 : D} {v w : Int} {y1 y2 y3 y4 y5 y6 y7 y8 y9 : Option L} (e : F [.ow none d, .fz (.int 40)] = some (.fz (.int v), [.ow none d1, .fz (.int 40)])) (ha : A (.int 1) (.int v) = some (.val (.int w))) :
    sSet 2 (fOp2 A (fC (.int 1)) (fCallF F (aB (fV 0) (aF (fC (.int 40)) aNil)))) (E5 d y1 y2 y3 y4 y5 y6 y7 y8 y9) = some (.nx (E5 d1 y1 (some (.fz (.int w))) y3 y4 y5 y6 y7 y8 y9)) := by
  simp [retL, gN, sNx, sSeq, sSet, sIf, sRet, sExpr, sPutL, fT, fOp2, fOp1, fCall, gets, fV, fC, fF, frz, Op.get, aNil, aB, aF, owd, L2.atI, L2.ixN, outL, inL, fCallF, callF, toLs, slotsOf, backL, dVals, fLst, fTup, vN, wipeR, backR, calmR, fMut, sPar, sFor, fLc, fRange1, fAnd, fOr, fNot, fB, sFldP, fMeth, fMethQ, fMake, fIterL, fIterT, fFld, ftYes, vT, vL, fEnum, fO, fIf, e, ha]
theorem s7_t {F1 F3 : FN} {C M : D → D → Option Op} {Ln Sg : List D → Option Op} {d l : D} {k n s x p q t : Int} {y1 y3 y4 y5 y7 y8 : Option L} (hl : Ln [l] = some (.val (.int k))) (hs : Sg [l] = some (.val (.int s))) (hc : C (.int k) (.int n) = some (.val (.bl true))) (h1 : F1 [.fz (.int n), .fz (.int k)] = some (.fz (.int p), [.fz (.int n), .fz (.int k)])) (h3 : F3 [.fz (.int x), .fz (.int s)] = some (.fz (.int q), [.fz (.int x), .fz (.int s)])) (hm : M (.int p) (.int q) = some (.val (.int t))) :
    sSet 1 (fIf (fT (fOp2 C (fCall Ln (aB (fV 6) aNil)) (fV 2))) (fOp2 M (fCallF F1 (aF (fV 2) (aF (fCall Ln (aB (fV 6) aNil)) aNil))) (fCallF F3 (aF (fV 9) (aF (fCall Sg (aB (fV 6) aNil)) aNil)))) (fC (.int 0))) (E5 d y1 (some (.fz (.int n))) y3 y4 y5 (some (.fz l)) y7 y8 (some (.fz (.int x)))) = some (.nx (E5 d (some (.fz (.int t))) (some (.fz (.int n))) y3 y4 y5 (some (.fz l)) y7 y8 (some (.fz (.int x))))) := by
  simp [retL, gN, sNx, sSeq, sSet, sIf, sRet, sExpr, sPutL, fT, fOp2, fOp1, fCall, gets, fV, fC, fF, frz, Op.get, aNil, aB, aF, owd, L2.atI, L2.ixN, outL, inL, fCallF, callF, toLs, slotsOf, backL, dVals, fLst, fTup, vN, wipeR, backR, calmR, fMut, sPar, sFor, fLc, fRange1, fAnd, fOr, fNot, fB, sFldP, fMeth, fMethQ, fMake, fIterL, fIterT, fFld, ftYes, vT, vL, fEnum, fO, fIf, hl, hs, hc, h1, h3, hm]
theorem s7_f {F1 F3 : FN} {C M : D → D → Option Op} {Ln Sg : List D → Option Op} {d l : D} {k n x : Int} {y1 y3 y4 y5 y7 y8 : Option L} (hl : Ln [l] = some (.val (.int k))) (hc : C (.int k) (.int n) = some (.val (.bl false))) :
    sSet 1 (fIf (fT (fOp2 C (fCall Ln (aB (fV 6) aNil)) (fV 2))) (fOp2 M (fCallF F1 (aF (fV 2) (aF (fCall Ln (aB (fV 6) aNil)) aNil))) (fCallF F3 (aF (fV 9) (aF (fCall Sg (aB (fV 6) aNil)) aNil)))) (fC (.int 0))) (E5 d y1 (some (.fz (.int n))) y3 y4 y5 (some (.fz l)) y7 y8 (some (.fz (.int x)))) = some (.nx (E5 d (some (.fz (.int 0))) (some (.fz (.int n))) y3 y4 y5 (some (.fz l)) y7 y8 (some (.fz (.int x))))) := by
  simp [retL, gN, sNx, sSeq, sSet, sIf, sRet, sExpr, sPutL, fT, fOp2, fOp1, fCall, gets, fV, fC, fF, frz, Op.get, aNil, aB, aF, owd, L2.atI, L2.ixN, outL, inL, fCallF, callF, toLs, slotsOf, backL, dVals, fLst, fTup, vN, wipeR, backR, calmR, fMut, sPar, sFor, fLc, fRange1, fAnd, fOr, fNot, fB, sFldP, fMeth, fMethQ, fMake, fIterL, fIterT, fFld, ftYes, vT, vL, fEnum, fO, fIf, hl, hc]
theorem s8_step {F : FN} {M N : D → D → Option Op} {d z r' v : D} {x n : Int} {y3 y4 y5 y6 y7 : Option L} (hm : M (.lst [.int x]) (.int n) = some (.own r')) (e : F [.ow none z, .fz r'] = some (.fz v, [.ow none z, .fz r'])) (hn : N v v = some (.val (.bl false))) (ok : okSelf "Formula" "value_on" (.slot 8) (E5 d (some (.fz v)) (some (.fz (.int n))) y3 y4 y5 y6 y7 (some (.ow none z)) (some (.fz (.int x)))) = true) :
    sIf (fT (fOp2 N (fMeth "Formula" "value_on" F (fV 8) (aF (fOp2 M (fLst (aF (fV 9) aNil)) (fV 2)) aNil)) (fV 1))) (sRet (fC (.bl false))) sNx (E5 d (some (.fz v)) (some (.fz (.int n))) y3 y4 y5 y6 y7 (some (.ow none z)) (some (.fz (.int x)))) = some (.nx (E5 d (some (.fz v)) (some (.fz (.int n))) y3 y4 y5 y6 y7 (some (.ow none z)) (some (.fz (.int x))))) := by
  simp [retL, gN, sNx, sSeq, sSet, sIf, sRet, sExpr, sPutL, fT, fOp2, fOp1, fCall, gets, fV, fC, fF, frz, Op.get, aNil, aB, aF, owd, L2.atI, L2.ixN, outL, inL, fCallF, callF, toLs, slotsOf, backL, dVals, fLst, fTup, vN, wipeR, backR, calmR, fMut, sPar, sFor, fLc, fRange1, fAnd, fOr, fNot, fB, sFldP, fMeth, fMethQ, fMake, fIterL, fIterT, fFld, ftYes, vT, vL, fEnum, fO, fIf, hm, e, hn, ok, sl1]
theorem s9_step {F F2 : FN} {d r z0 z1 z2 : D} {v0 v1 v2 : Int} {y1 y2 y3 y4 y5 y6 y8 y9 : Option L} (a0 : F2 [.fz (.lst [.int 0])] = some (.ow none z0, [.fz (.lst [.int 0])])) (a1 : F2 [.fz (.lst [.int 1])] = some (.ow none z1, [.fz (.lst [.int 1])])) (a2 : F2 [.fz (.lst [.int 0, .int 1])] = some (.ow none z2, [.fz (.lst [.int 0, .int 1])]))
    (e0 : F [.fz z0, .fz r] = some (.fz (.int v0), [.fz z0, .fz r])) (e1 : F [.fz z1, .fz r] = some (.fz (.int v1), [.fz z1, .fz r])) (e2 : F [.fz z2, .fz r] = some (.fz (.int v2), [.fz z2, .fz r])) (k0 : ∀ ρ, okSelf "Formula" "value_on" (.val z0) ρ = true) (k1 : ∀ ρ, okSelf "Formula" "value_on" (.val z1) ρ = true) (k2 : ∀ ρ, okSelf "Formula" "value_on" (.val z2) ρ = true) :
    sSet 3 (fLst (aF (fMeth "Formula" "value_on" F (fO (fF (fCallF F2 (aF (fLst (aF (fC (.int 0)) aNil)) aNil)))) (aF (fV 7) aNil)) (aF (fMeth "Formula" "value_on" F (fO (fF (fCallF F2 (aF (fLst (aF (fC (.int 1)) aNil)) aNil)))) (aF (fV 7) aNil)) (aF (fMeth "Formula" "value_on" F (fO (fF (fCallF F2 (aF (fLst (aF (fC (.int 0)) (aF (fC (.int 1)) aNil))) aNil)))) (aF (fV 7) aNil)) aNil)))) (E5 d y1 y2 y3 y4 y5 y6 (some (.fz r)) y8 y9) = some (.nx (E5 d y1 y2 (some (.ow none (.lst [.int v0, .int v1, .int v2]))) y4 y5 y6 (some (.fz r)) y8 y9)) := by
  simp [retL, gN, sNx, sSeq, sSet, sIf, sRet, sExpr, sPutL, fT, fOp2, fOp1, fCall, gets, fV, fC, fF, frz, Op.get, aNil, aB, aF, owd, L2.atI, L2.ixN, outL, inL, fCallF, callF, toLs, slotsOf, backL, dVals, fLst, fTup, vN, wipeR, backR, calmR, fMut, sPar, sFor, fLc, fRange1, fAnd, fOr, fNot, fB, sFldP, fMeth, fMethQ, fMake, fIterL, fIterT, fFld, ftYes, vT, vL, fEnum, fO, fIf, a0, a1, a2, e0, e1, e2, k0, k1, k2, sl1, sl2, sl3]
theorem s10_step {N : D → D → Option Op} {Ln Sg : List D → Option Op} {lc : FE} {d r q : D} {v0 v1 v2 : Int} {y1 y2 y4 y5 y6 y8 y9 : Option L} (h0 : Ln [r] = some (.val (.int v0))) (h1 : Sg [r] = some (.val (.int v1))) (hlc : lc (E5 d y1 y2 (some (.ow none (.lst [.int v0, .int v1, .int v2]))) y4 y5 y6 (some (.fz r)) y8 y9) = some (.own q, E5 d y1 y2 (some (.ow none (.lst [.int v0, .int v1, .int v2]))) y4 y5 y6 (some (.fz r)) y8 y9)) (h2 : Sg [q] = some (.val (.int v2))) (hn : N (.lst [.int v0, .int v1, .int v2]) (.lst [.int v0, .int v1, .int v2]) = some (.val (.bl false))) :
    sIf (fT (fOp2 N (fV 3) (fLst (aF (fCall Ln (aB (fV 7) aNil)) (aF (fCall Sg (aB (fV 7) aNil)) (aF (fCall Sg (aB lc aNil)) aNil)))))) (sRet (fC (.bl false))) sNx (E5 d y1 y2 (some (.ow none (.lst [.int v0, .int v1, .int v2]))) y4 y5 y6 (some (.fz r)) y8 y9) = some (.nx (E5 d y1 y2 (some (.ow none (.lst [.int v0, .int v1, .int v2]))) y4 y5 y6 (some (.fz r)) y8 y9)) := by
  simp [retL, gN, sNx, sSeq, sSet, sIf, sRet, sExpr, sPutL, fT, fOp2, fOp1, fCall, gets, fV, fC, fF, frz, Op.get, aNil, aB, aF, owd, L2.atI, L2.ixN, outL, inL, fCallF, callF, toLs, slotsOf, backL, dVals, fLst, fTup, vN, wipeR, backR, calmR, fMut, sPar, sFor, fLc, fRange1, fAnd, fOr, fNot, fB, sFldP, fMeth, fMethQ, fMake, fIterL, fIterT, fFld, ftYes, vT, vL, fEnum, fO, fIf, h0, h1, hlc, h2, hn, sl3]
theorem s11_step {F : FN} {d d1 : D} {s : Int} {y1 y2 y3 y4 y5 y6 y7 y8 y9 : Option L} (e : F [.ow none d] = some (.fz (.int s), [.ow none d1])) : sSet 4 (fCallF F (aB (fV 0) aNil)) (E5 d y1 y2 y3 y4 y5 y6 y7 y8 y9) = some (.nx (E5 d1 y1 y2 y3 (some (.fz (.int s))) y5 y6 y7 y8 y9)) := by
  simp [retL, gN, sNx, sSeq, sSet, sIf, sRet, sExpr, sPutL, fT, fOp2, fOp1, fCall, gets, fV, fC, fF, frz, Op.get, aNil, aB, aF, owd, L2.atI, L2.ixN, outL, inL, fCallF, callF, toLs, slotsOf, backL, dVals, fLst, fTup, vN, wipeR, backR, calmR, fMut, sPar, sFor, fLc, fRange1, fAnd, fOr, fNot, fB, sFldP, fMeth, fMethQ, fMake, fIterL, fIterT, fFld, ftYes, vT, vL, fEnum, fO, fIf, e]
theorem s12_step {F : FN} {S : D → D → Option Op} {d l z : D} {s t : Int} {y1 y2 y3 y5 y7 y8 y9 : Option L} (hs : S (.int 0) (.int s) = some (.val (.int t))) (e : F [.ow none (.ins "Formula" []), .fz (.lst [.tup [.int s, l], .tup [.int 1, .lst [.int 2]], .tup [.int t, l]])] = some (.fz .non, [.ow none z, .fz (.lst [.tup [.int s, l], .tup [.int 1, .lst [.int 2]], .tup [.int t, l]])])) :
    sSet 5 (fMake "Formula" F (aF (fLst (aF (fTup (aF (fV 4) (aF (fV 6) aNil))) (aF (fTup (aF (fC (.int 1)) (aF (fLst (aF (fC (.int 2)) aNil)) aNil))) (aF (fTup (aF (fOp2 S (fC (.int 0)) (fV 4)) (aF (fV 6) aNil))) aNil)))) aNil)) (E5 d y1 y2 y3 (some (.fz (.int s))) y5 (some (.fz l)) y7 y8 y9) = some (.nx (E5 d y1 y2 y3 (some (.fz (.int s))) (some (.ow none z)) (some (.fz l)) y7 y8 y9)) := by
  simp [retL, gN, sNx, sSeq, sSet, sIf, sRet, sExpr, sPutL, fT, fOp2, fOp1, fCall, gets, fV, fC, fF, frz, Op.get, aNil, aB, aF, owd, L2.atI, L2.ixN, outL, inL, fCallF, callF, toLs, slotsOf, backL, dVals, fLst, fTup, vN, wipeR, backR, calmR, fMut, sPar, sFor, fLc, fRange1, fAnd, fOr, fNot, fB, sFldP, fMeth, fMethQ, fMake, fIterL, fIterT, fFld, ftYes, vT, vL, fEnum, fO, fIf, hs, e, sl1, sl2, sl3]
theorem s13_step {F : FN} {Eq : D → D → Option Op} {Sg : List D → Option Op} {lc : FE} {d r q z : D} {v : Int} {y1 y2 y3 y4 y6 y8 y9 : Option L} (e : F [.ow none z, .fz r] = some (.fz (.int v), [.ow none z, .fz r])) (hlc : lc (E5 d y1 y2 y3 y4 (some (.ow none z)) y6 (some (.fz r)) y8 y9) = some (.own q, E5 d y1 y2 y3 y4 (some (.ow none z)) y6 (some (.fz r)) y8 y9)) (h2 : Sg [q] = some (.val (.int v))) (he : Eq (.int v) (.int v) = some (.val (.bl true))) (ok : okSelf "Formula" "value_on" (.slot 5) (E5 d y1 y2 y3 y4 (some (.ow none z)) y6 (some (.fz r)) y8 y9) = true) :
    sRet (fOp2 Eq (fMeth "Formula" "value_on" F (fV 5) (aF (fV 7) aNil)) (fCall Sg (aB lc aNil))) (E5 d y1 y2 y3 y4 (some (.ow none z)) y6 (some (.fz r)) y8 y9) = some (.ret (.fz (.bl true)) (E5 d y1 y2 y3 y4 (some (.ow none z)) y6 (some (.fz r)) y8 y9)) := by
  simp [retL, gN, sNx, sSeq, sSet, sIf, sRet, sExpr, sPutL, fT, fOp2, fOp1, fCall, gets, fV, fC, fF, frz, Op.get, aNil, aB, aF, owd, L2.atI, L2.ixN, outL, inL, fCallF, callF, toLs, slotsOf, backL, dVals, fLst, fTup, vN, wipeR, backR, calmR, fMut, sPar, sFor, fLc, fRange1, fAnd, fOr, fNot, fB, sFldP, fMeth, fMethQ, fMake, fIterL, fIterT, fFld, ftYes, vT, vL, fEnum, fO, fIf, e, hlc, h2, he, ok]
end DV

set_option Elab.async false
set_option linter.all false
set_option maxRecDepth 100000
set_option maxHeartbeats 1000000
set_option exponentiation.threshold 2000
namespace DV
open PySem PySem.Spec PyProof.Rows L2
theorem len_ints {l : List Int} : gLen [intsL l] = some (.val (.int l.length)) := by
  show some (Op.val (.int ((l.map D.int).length : Nat))) = _
  rw [List.length_map]
theorem sum_ints {l : List Int} : gSum [intsL l] = some (.val (.int l.sum)) := by
  show (intsD (l.map D.int)).map (fun ns => Op.val (.int ns.sum)) = _
  rw [intsD_map]; rfl
theorem add_one {r : List Int} {x : Int} (h : r.length ≤ 39) : gAdd (intsL r) (.lst [.int x]) = some (.own (intsL (r ++ [x]))) := by
  have c : (r.map D.int).length + [D.int x].length ≤ sizeLine := by rw [sizeLine_eq, List.length_map]; show r.length + 1 ≤ _; omega
  have e := gAdd_l (a := r.map .int) (b := [.int x])
  rw [if_pos c] at e
  unfold intsL
  rw [List.map_append]
  exact e
theorem mul_rep {x : Int} {n : Nat} (hn : n ≤ 40) : gMul (.lst [.int x]) (.int n) = some (.own (intsL (List.replicate n x))) := by
  have c2 : 1 * n ≤ sizeLine := by rw [sizeLine_eq]; omega
  have h1 : -(2 ^ 63) ≤ (n : Int) ∧ (n : Int) < 2 ^ 63 ∧ [D.int x].length * (n : Int).toNat ≤ sizeLine := ⟨by omega, by omega, c2⟩
  have e := gMul_l (a := [.int x]) (k := (n : Int))
  rw [if_pos h1, Int.toNat_natCast, List.flatten_replicate_singleton] at e
  unfold intsL
  rw [List.map_replicate]
  exact e
theorem lc_step {M : D → D → Option Op} {d : D} {a b c : Int} {y1 y2 y3 y4 y5 y6 y7 y8 y9 : Option L} (h : M (.int a) (.int b) = some (.val (.int c))) : fF (fOp2 M (fV 11) (fV 10)) [some (.ow (some 0) d), y1, y2, y3, y4, y5, y6, y7, y8, y9, some (.fz (.int b)), some (.fz (.int a))] = some (.int c, [some (.ow (some 0) d), y1, y2, y3, y4, y5, y6, y7, y8, y9, some (.fz (.int b)), some (.fz (.int a))]) := by
  have e := fOp2_ok (g := M) (fa := fV 11) (fb := fV 10) (ρ := [some (.ow (some 0) d), y1, y2, y3, y4, y5, y6, y7, y8, y9, some (.fz (.int b)), some (.fz (.int a))]) rfl rfl rfl rfl h
  unfold fF
  rw [e]
  rfl
theorem lc_enum {d : D} {r : List Int} {y1 y2 y3 y4 y5 y6 y8 y9 : Option L} (hr : ROk r) : fLc (fEnum (aF (fV 7) aNil)) (vT [(vN 11), (vN 10)]) ftYes (fOp2 gMul (fV 11) (fV 10)) [11, 10] (E5 d y1 y2 y3 y4 y5 y6 (some (.fz (intsL r))) y8 y9) = some (.own (.lst ((enI 0 r).map fun p => D.int (p.1 * p.2))), E5 d y1 y2 y3 y4 y5 y6 (some (.fz (intsL r))) y8 y9) := by
  have il : fEnum (aF (fV 7) aNil) (E5 d y1 y2 y3 y4 y5 y6 (some (.fz (intsL r))) y8 y9) = some ((enI 0 r).map (fun p => D.tup [.int p.1, .int p.2]), E5 d y1 y2 y3 y4 y5 y6 (some (.fz (intsL r))) y8 y9) := by
    rw [← enum_en]
    rfl
  refine fLc_ok il rfl (lcL_mapF (ρ := E5 d y1 y2 y3 y4 y5 y6 (some (.fz (intsL r))) y8 y9) (fun p => D.tup [.int p.1, .int p.2]) (fun p => D.int (p.1 * p.2)) (zs := enI 0 r) (acc := []) (fun p hp => ?_) (by have := hr.1; rw [sizeLine_eq, enI_len]; show 0 + _ ≤ _; omega)) rfl
  obtain ⟨a, b, c⟩ := enI_mem hp
  have h39 := hr.1
  have m1 : gMul (.int p.1) (.int p.2) = some (.val (.int (p.1 * p.2))) := by rw [gMul_i, if_pos (mulOk_small (by omega))]
  exact ⟨_, _, _, rfl, rfl, lc_step m1, rfl⟩
theorem lq_step {M : D → D → Option Op} {d : D} {b c : Int} {y1 y2 y3 y4 y5 y6 y7 y8 y9 : Option L} (h : M (.int b) (.int b) = some (.val (.int c))) : fF (fOp2 M (fV 10) (fV 10)) [some (.ow (some 0) d), y1, y2, y3, y4, y5, y6, y7, y8, y9, some (.fz (.int b)), none] = some (.int c, [some (.ow (some 0) d), y1, y2, y3, y4, y5, y6, y7, y8, y9, some (.fz (.int b)), none]) := by
  have e := fOp2_ok (g := M) (fa := fV 10) (fb := fV 10) (ρ := [some (.ow (some 0) d), y1, y2, y3, y4, y5, y6, y7, y8, y9, some (.fz (.int b)), none]) rfl rfl rfl rfl h
  unfold fF
  rw [e]
  rfl
theorem lc_sq {d : D} {r : List Int} {y1 y2 y3 y4 y5 y6 y8 y9 : Option L} (hr : ROk r) : fLc (fIterL (fV 7)) (vN 10) ftYes (fOp2 gMul (fV 10) (fV 10)) [10] (E5 d y1 y2 y3 y4 y5 y6 (some (.fz (intsL r))) y8 y9) = some (.own (.lst (r.map fun c => D.int (c * c))), E5 d y1 y2 y3 y4 y5 y6 (some (.fz (intsL r))) y8 y9) := by
  refine fLc_ok (ds := r.map .int) rfl rfl (lcL_mapF (ρ := E5 d y1 y2 y3 y4 y5 y6 (some (.fz (intsL r))) y8 y9) D.int (fun c => D.int (c * c)) (zs := r) (acc := []) (fun c hc => ?_) (by have := hr.1; rw [sizeLine_eq]; show 0 + _ ≤ _; omega)) rfl
  have hx := hr.2 c hc
  have m1 : gMul (.int c) (.int c) = some (.val (.int (c * c))) := by rw [gMul_i, if_pos (mulOk_small (by omega))]
  exact ⟨_, _, _, rfl, rfl, lq_step m1, rfl⟩
theorem sum_map {α : Type} (f : α → Int) (z : List α) : gSum [.lst (z.map fun t => D.int (f t))] = some (.val (.int (z.map f).sum)) := by
  rw [gSum_l, v_sum]; rfl
theorem sum_nn : ∀ {l : List Int}, (∀ a ∈ l, 0 ≤ a ∧ a ≤ 4) → 0 ≤ l.sum ∧ l.sum ≤ 4 * l.length
  | [], _ => ⟨Int.le_refl _, by simp⟩
  | a :: l, h => by
    have h1 := sum_nn (l := l) fun b hb => h b (List.mem_cons_of_mem _ hb)
    have h2 := h a (List.mem_cons_self ..)
    rw [List.sum_cons, List.length_cons]
    omega
theorem s7_ok {d : D} {l : List Int} {n : Nat} {x : Int} {y1 y3 y4 y5 y7 y8 : Option L} (hl : WOk l) (hn : n ≤ 40) (hx : -(10 ^ 6) ≤ x ∧ x ≤ 10 ^ 6) :
    sSet 1 (fIf (fT (fOp2 (gCmp fun i j => decide (i ≤ j)) (fCall gLen (aB (fV 6) aNil)) (fV 2))) (fOp2 gMul (fCallF F__law_chosen (aF (fV 2) (aF (fCall gLen (aB (fV 6) aNil)) aNil))) (fCallF F__law_power (aF (fV 9) (aF (fCall gSum (aB (fV 6) aNil)) aNil)))) (fC (.int 0))) (E5 d y1 (some (.fz (.int n))) y3 y4 y5 (some (.fz (intsL l))) y7 y8 (some (.fz (.int x)))) = some (.nx (E5 d (some (.fz (.int (Sm l (List.replicate n x))))) (some (.fz (.int n))) y3 y4 y5 (some (.fz (intsL l))) y7 y8 (some (.fz (.int x))))) := by
  by_cases h : l.length ≤ n
  · have sn := sum_nn hl.2
    have h5 := hl.1
    have hs : (l.sum).toNat = sumN l := by
      have := sumN_eq (l := l) fun a ha => (hl.2 a ha).1
      omega
    have e : Sm l (List.replicate n x) = Ch n l.length * x ^ (l.sum).toNat := by rw [Sm_rep, hs]
    rw [e]
    have hc : (gCmp fun i j => decide (i ≤ j)) (.int l.length) (.int n) = some (.val (.bl true)) := by
      rw [gCmp_i, decide_eq_true (by omega)]
    have hb : (Ch n l.length : Int) < 2 ^ 64 := by
      have h1 := Ch_le n l.length
      have h2 : 2 ^ n ≤ 2 ^ 40 := Nat.pow_le_pow_right (by decide) hn
      have h3 : Ch n l.length < 2 ^ 64 := Nat.lt_of_le_of_lt (Nat.le_trans h1 h2) (by decide)
      exact Int.ofNat_lt.mpr h3
    have hm : gMul (.int (Ch n l.length)) (.int (x ^ (l.sum).toNat)) = some (.val (.int (Ch n l.length * x ^ (l.sum).toNat))) := by
      rw [gMul_i, if_pos (mulOk_small ⟨by omega, hb⟩)]
    exact s7_t len_ints sum_ints hc (chosen_ok hn (by omega)) (power_ok (by omega) sn.1 (by omega)) hm
  · rw [Sm_short (by rw [List.length_replicate]; omega)]
    have hc : (gCmp fun i j => decide (i ≤ j)) (.int l.length) (.int n) = some (.val (.bl false)) := by
      rw [gCmp_i, decide_eq_false (by omega)]
    exact s7_f len_ints hc
theorem rep_ok {n : Nat} {x : Int} (hn : n ≤ 40) (hx : -(10 ^ 6) ≤ x ∧ x ≤ 10 ^ 6) : ROk (List.replicate n x) := ⟨by rw [List.length_replicate]; exact hn, fun y hy => by rw [List.eq_of_mem_replicate hy]; exact hx⟩
theorem ne_self {v : Int} : gNe (.int v) (.int v) = some (.val (.bl false)) := by
  rw [gNe_i, decide_eq_true rfl]; rfl
theorem eq_self' {v : Int} : gEq (.int v) (.int v) = some (.val (.bl true)) := by
  rw [gEq_i, decide_eq_true rfl]
theorem ne_lst {a b c : Int} : gNe (.lst [.int a, .int b, .int c]) (.lst [.int a, .int b, .int c]) = some (.val (.bl false)) := by
  unfold gNe
  rw [show eqPy (.lst [.int a, .int b, .int c]) (.lst [.int a, .int b, .int c]) = some true from (Good.intsL (k := 0) (l := [a, b, c])).refl (by decide)]
  rfl
theorem w0 : WOk [0] := ⟨by decide, by decide⟩
theorem w1 : WOk [1] := ⟨by decide, by decide⟩
theorem w2 : WOk [2] := ⟨by decide, by decide⟩
theorem w01 : WOk [0, 1] := ⟨by decide, by decide⟩
theorem z3_ok {s : Int} {l : List Int} (hs : -99 ≤ s ∧ s ≤ 99) (hl : WOk l) : ZOk [(s, l), (1, [2]), (0 - s, l)] := ⟨by show 3 ≤ 4; decide, fun t ht => by
  rcases List.mem_cons.mp ht with rfl | ht
  · exact ⟨by show -(10 ^ 7) ≤ s; omega, by show s ≤ 10 ^ 7; omega, hl⟩
  · rcases List.mem_cons.mp ht with rfl | ht
    · exact ⟨(by decide : (-(10 ^ 7) : Int) ≤ 1), (by decide : (1 : Int) ≤ 10 ^ 7), w2⟩
    · rw [List.mem_singleton.mp ht]
      exact ⟨by show -(10 ^ 7) ≤ 0 - s; omega, by show 0 - s ≤ 10 ^ 7; omega, hl⟩⟩
theorem Vl_z3 {s : Int} {l r : List Int} : Vl [(s, l), (1, [2]), (0 - s, l)] r = Sm [2] r := by
  unfold Vl
  simp only [List.map_cons, List.map_nil, List.sum_cons, List.sum_nil]
  rw [Int.sub_mul]
  omega
theorem right_ok {n : Nat} {d : D} (h : PoolOk n d) (hn : n < 2 ^ 37) (xx : Option Nat) : ∃ d', F__law_right [.ow xx d] = some (.fz (.bl true), [.ow none d']) ∧ PoolOk (n + 5000000) d' := by
  obtain ⟨l, r, d1, t1, hl, h39, hr, p1⟩ := s1_ok h (by omega)
  obtain ⟨x, d2, t2, hx, p2⟩ := s2_ok (y7 := some (.ow none (intsL r))) p1 (by omega) hl
  have hr' : ROk (r ++ [x]) := ⟨by rw [List.length_append]; show r.length + 1 ≤ 40; omega, fun y hy => by
    rcases List.mem_append.mp hy with q | q
    · exact hr.2 y q
    · rw [List.mem_singleton.mp q]; exact hx⟩
  obtain ⟨v, d3, e3, b3, c3, p3⟩ := draw_ok p2 (by omega) (m := 40) (by decide) (by decide) none
  obtain ⟨k, hk⟩ := Int.eq_ofNat_of_zero_le (a := 1 + v) (by omega)
  have hk40 : k ≤ 40 := by omega
  have t6 := fun (y1 y2 y3 y4 y5 y6 y7 y8 y9 : Option L) => s6_step (y1 := y1) (y2 := y2) (y3 := y3) (y4 := y4) (y5 := y5) (y6 := y6) (y7 := y7) (y8 := y8) (y9 := y9) e3 (gAdd_i (i := 1) (j := v))
  rw [hk] at t6
  obtain ⟨s, d4, e4, b4, c4, p4⟩ := factor_ok p3 (by omega) none
  have i3 := init_ok (z3_ok ⟨b4, c4⟩ hl)
  have v3 := value_on_ok (x := none) (z3_ok ⟨b4, c4⟩ hl) hr
  rw [Vl_z3] at v3
  have g0 : gLen [intsL r] = some (.val (.int (Sm [0] r))) := by rw [Sm_0]; exact len_ints
  have g1 : gSum [intsL r] = some (.val (.int (Sm [1] r))) := by rw [Sm_1]; exact sum_ints
  have g2 : gSum [.lst ((enI 0 r).map fun p => D.int (p.1 * p.2))] = some (.val (.int (Sm [0, 1] r))) := by rw [Sm_01, sum_map]; rfl
  have g3 : gSum [.lst (r.map fun c => D.int (c * c))] = some (.val (.int (Sm [2] r))) := by rw [Sm_2, sum_map]
  exact ⟨d4, fnS_ret rfl (sSeq_nx t1 (sSeq_nx t2 (sSeq_nx (s3_ok hl hr) (sSeq_nx (s4_ok hl hr hx) (sSeq_nx (s5_step (add_one h39) (val1 hl hr') ne_self rfl) (sSeq_nx (t6 ..) (sSeq_nx (s7_ok hl hk40 hx) (sSeq_nx (s8_step (mul_rep hk40) (val1 hl (rep_ok hk40 hx)) ne_self rfl)
    (sSeq_nx (s9_step (wf_ok w0) (wf_ok w1) (wf_ok w01) (valF1 w0 hr) (valF1 w1 hr) (valF1 w01 hr) (fun _ => rfl) (fun _ => rfl) (fun _ => rfl)) (sSeq_nx (s10_step g0 g1 (lc_enum hr) g2 ne_lst) (sSeq_nx (s11_step e4) (sSeq_nx (s12_step gSub_i i3) (s13_step v3 (lc_sq hr) g3 eq_self' rfl))))))))))))) rfl, p4.mono (by omega)⟩
end DV

set_option Elab.async false
set_option linter.all false
set_option maxRecDepth 100000
set_option maxHeartbeats 1000000
set_option exponentiation.threshold 2000
namespace DV
open PySem PySem.Spec PyProof.Rows L2
theorem pool3 {ns : List Int} {k cell : Int} (hk : 0 ≤ k ∧ k ≤ 10) : ∃ d, PoolOk 0 d ∧ sRet (fLst (aF (fCall gMax2 (aB (fC (.int 0)) (aB (fOp2 DV.gSub (fCall gAbs (aB (fV 2) aNil)) (fOp2 gPow (fC (.int 10)) (fC (.int 18)))) aNil))) (aF (fOp2 gAdd (fOp2 gMod (fCall gInt1 (aB (fV 2) aNil)) (fC (.int 2305843009213693951))) (fOp2 gMul (fC (.int 7368787)) (fOp2 gAdd (fV 1) (fC (.int 1))))) (aF (fC (.int 0)) aNil)))) [some (.fz (.scr ns)), some (.fz (.int k)), some (.fz (.int cell))] = some (.ret (.ow none d) [some (.fz (.scr ns)), some (.fz (.int k)), some (.fz (.int cell))]) := by
  generalize hA : (if (if cell < 0 then -cell else cell) - 10 ^ 18 > 0 then (if cell < 0 then -cell else cell) - 10 ^ 18 else 0) = A
  have hA0 : 0 ≤ A := by rw [← hA]; split <;> omega
  have hf0 := Int.fmod_nonneg_of_pos cell (b := 2305843009213693951) (by decide)
  have hf1 := Int.fmod_lt_of_pos cell (b := 2305843009213693951) (by decide)
  refine ⟨plD A (cell.fmod 2305843009213693951 + 7368787 * (k + 1)) 0, ⟨_, _, _, rfl, hA0, by omega, by omega, by omega, by omega⟩, ?_⟩
  have m1 : MulOk 7368787 (k + 1) := mulOk_small (by decide)
  have g1 : gMul (.int 7368787) (.int (k + 1)) = some (.val (.int (7368787 * (k + 1)))) := by rw [gMul_i, if_pos m1]
  have pk : PowOk 10 18 := by decide
  have g2 : gPow (.int 10) (.int 18) = some (.val (.int (10 ^ 18))) := by rw [gPow_i, if_pos pk]; rfl
  have g3 : gMod (.int cell) (.int 2305843009213693951) = some (.val (.int (cell.fmod 2305843009213693951))) := by rw [gMod_i, if_pos (by decide)]
  have g4 : gMax2 [.int 0, .int ((if cell < 0 then -cell else cell) - 10 ^ 18)] = some (.val (.int A)) := by rw [gMax2_i, hA]
  have g5 : gAbs [.int cell] = some (.val (.int (if cell < 0 then -cell else cell))) := gAbs_i
  have g6 : DV.gSub (.int (if cell < 0 then -cell else cell)) (.int (10 ^ 18)) = some (.val (.int ((if cell < 0 then -cell else cell) - 10 ^ 18))) := gSub_i
  clear hA
  generalize ((if cell < 0 then -cell else cell) - 10 ^ 18) = B at g4 g6
  generalize (if cell < 0 then -cell else cell) = C at g5 g6
  generalize ((10 : Int) ^ 18) = T at g2 g6
  generalize gMul = M at g1 ⊢
  generalize gPow = P at g2 ⊢
  generalize gMod = Q at g3 ⊢
  generalize gMax2 = R at g4 ⊢
  generalize gAbs = S at g5 ⊢
  generalize DV.gSub = U at g6 ⊢
  have h3 : 3 ≤ sizeLine := by decide
  generalize cell.fmod 2305843009213693951 = W at g3 ⊢
  simp [retL, gN, sNx, sSeq, sSet, sIf, sRet, sExpr, sPutL, fT, fOp2, fOp1, fCall, gets, fV, fC, fF, frz, Op.get, aNil, aB, aF, owd, L2.atI, L2.ixN, outL, inL, fCallF, callF, toLs, slotsOf, backL, dVals, fLst, fTup, vN, wipeR, backR, calmR, fMut, sPar, sFor, fLc, fRange1, fAnd, fOr, fNot, fB, sFldP, fMeth, fMethQ, fMake, fIterL, fIterT, fFld, ftYes, vT, vL, fEnum, g1, g2, g3, g4, g5, g6, h3, plD]
theorem pool_ok {ns : List Int} {k : Int} (hk : 0 ≤ k ∧ k ≤ 10) : ∃ d, F__law_pool [.fz (.scr ns), .fz (.int k)] = some (.ow none d, [.fz (.scr ns), .fz (.int k)]) ∧ PoolOk 0 d := by
  have s1 : sSet 2 (fC (.int 0)) [some (.fz (.scr ns)), some (.fz (.int k)), none] = some (.nx [some (.fz (.scr ns)), some (.fz (.int k)), some (.fz (.int 0))]) := rfl
  have s2 : ∃ cell : Int, sIf (fT (fOp2 (gCmp fun i j => decide (i < j)) (fV 1) (fCall gLen (aB (fV 0) aNil)))) (sSet 2 (fOp2 gIx (fV 0) (fV 1))) sNx [some (.fz (.scr ns)), some (.fz (.int k)), some (.fz (.int 0))] = some (.nx [some (.fz (.scr ns)), some (.fz (.int k)), some (.fz (.int cell))]) := by
    have ht : fT (fOp2 (gCmp fun i j => decide (i < j)) (fV 1) (fCall gLen (aB (fV 0) aNil))) [some (.fz (.scr ns)), some (.fz (.int k)), some (.fz (.int 0))] = some (decide (k < ns.length), [some (.fz (.scr ns)), some (.fz (.int k)), some (.fz (.int 0))]) := rfl
    by_cases h : k < ns.length
    · have hx : ns[k.toNat]? = some (ns[k.toNat]'(by omega)) := List.getElem?_eq_getElem _
      have hx2 : L2.atI ns k = some (ns[k.toNat]'(by omega)) := by
        have := atI_nat hx
        rwa [Int.toNat_of_nonneg hk.1] at this
      refine ⟨ns[k.toNat]'(by omega), sIf_t (by rw [ht, decide_eq_true h]) (sSet_ok (o := .val (.int (ns[k.toNat]'(by omega)))) (fOp2_ok rfl rfl rfl rfl ?_) rfl)⟩
      rw [gIx_s, hx2]
      rfl
    · exact ⟨0, sIf_f (by rw [ht, decide_eq_false h]) rfl⟩
  obtain ⟨cell, s2⟩ := s2
  obtain ⟨d, p, s3⟩ := pool3 (ns := ns) (k := k) (cell := cell) hk
  exact ⟨d, fnS_ret rfl (sSeq_nx s1 (sSeq_nx s2 s3)) rfl, p⟩
theorem in_ok {ns : List Int} {d : D} {y1 y3 : Option L} (h : PoolOk 0 d) : ∃ (d' : D) (y3' : Option L), sFor (fRange1 (aB (fC (.int 4)) aNil)) (vN 3) (sIf (fNot (fT (fCallF F__law_right (aB (fV 2) aNil)))) (sRet (fC (.bl false))) sNx) [some (.fz (.scr ns)), y1, some (.ow none d), y3] = some (.nx [some (.fz (.scr ns)), y1, some (.ow none d'), y3']) := by
  obtain ⟨ρ', q1, q2⟩ := forL_run (g := vN 3) (body := (sIf (fNot (fT (fCallF F__law_right (aB (fV 2) aNil)))) (sRet (fC (.bl false))) sNx))
    (fun r ρ => ∃ (k : Nat) (dd : D) (y3 : Option L), k + 5000000 * r.length ≤ 20000000 ∧ PoolOk k dd ∧ ρ = [some (.fz (.scr ns)), y1, some (.ow none dd), y3])
    (by
      rintro e r ρ ⟨k, dd, y3, hk, hp, rfl⟩
      simp only [List.length_cons] at hk
      obtain ⟨d', e1, p⟩ := right_ok hp (by omega) none
      refine ⟨_, [some (.fz (.scr ns)), y1, some (.ow none d'), some (.fz e)], rfl, .inl ?_, ⟨k + 5000000, d', some (.fz e), by omega, p, rfl⟩⟩
      generalize F__law_right = F at e1 ⊢
      simp [retL, gN, sNx, sSeq, sSet, sIf, sRet, sExpr, sPutL, fT, fOp2, fOp1, fCall, gets, fV, fC, fF, frz, Op.get, aNil, aB, aF, owd, L2.atI, L2.ixN, outL, inL, fCallF, callF, toLs, slotsOf, backL, dVals, fLst, fTup, vN, wipeR, backR, calmR, fMut, sPar, sFor, fLc, fRange1, fAnd, fOr, fNot, fB, sFldP, fMeth, fMethQ, fMake, fIterL, fIterT, fFld, ftYes, vT, vL, fEnum, e1])
    (rangeD 0 1 4) [some (.fz (.scr ns)), y1, some (.ow none d), y3] ⟨0, d, y3, by simp [retL, gN, sNx, sSeq, sSet, sIf, sRet, sExpr, sPutL, fT, fOp2, fOp1, fCall, gets, fV, fC, fF, frz, Op.get, aNil, aB, aF, owd, L2.atI, L2.ixN, outL, inL, fCallF, callF, toLs, slotsOf, backL, dVals, fLst, fTup, vN, wipeR, backR, calmR, fMut, sPar, sFor, fLc, fRange1, fAnd, fOr, fNot, fB, sFldP, fMeth, fMethQ, fMake, fIterL, fIterT, fFld, ftYes, vT, vL, fEnum, rangeD_len], h, rfl⟩
  obtain ⟨k, dd, y3', hk, hp, rfl⟩ := q2
  exact ⟨dd, y3', sFor_ok rfl q1⟩
theorem law_ok (ns : List Int) : ∃ ls', F_law [.fz (.scr ns)] = some (.fz (.bl true), ls') := by
  obtain ⟨m, hm, m1⟩ : ∃ m : Int, (if (if (ns.length : Int) < 6 then (ns.length : Int) else 6) > 1 then (if (ns.length : Int) < 6 then (ns.length : Int) else 6) else 1) = m ∧ 0 ≤ m ∧ m ≤ 6 := ⟨_, rfl, by split <;> split <;> omega, by split <;> split <;> omega⟩
  have ha : (aB (fCall gMax2 (aB (fC (.int 1)) (aB (fCall gMin2 (aB (fC (.int 6)) (aB (fCall gLen (aB (fV 0) aNil)) aNil))) aNil))) aNil) [some (.fz (.scr ns)), none, none, none] = some ([.val (.int m)], [some (.fz (.scr ns)), none, none, none]) := by
    rw [← hm]
    rfl
  have ro : rangeOk 0 m = true := by simp [retL, gN, sNx, sSeq, sSet, sIf, sRet, sExpr, sPutL, fT, fOp2, fOp1, fCall, gets, fV, fC, fF, frz, Op.get, aNil, aB, aF, owd, L2.atI, L2.ixN, outL, inL, fCallF, callF, toLs, slotsOf, backL, dVals, fLst, fTup, vN, wipeR, backR, calmR, fMut, sPar, sFor, fLc, fRange1, fAnd, fOr, fNot, fB, sFldP, fMeth, fMethQ, fMake, fIterL, fIterT, fFld, ftYes, vT, vL, fEnum, rangeOk]; omega
  obtain ⟨ρ', q1, q2⟩ := forL_run (g := vN 1) (body := (sSeq (sSet 2 (fCallF F__law_pool (aF (fV 0) (aF (fV 1) aNil)))) (sFor (fRange1 (aB (fC (.int 4)) aNil)) (vN 3) (sIf (fNot (fT (fCallF F__law_right (aB (fV 2) aNil)))) (sRet (fC (.bl false))) sNx))))
    (fun r ρ => (∀ d ∈ r, ∃ k : Int, d = .int k ∧ 0 ≤ k ∧ k ≤ 10) ∧ ∃ (y1 y2 y3 : Option L), ρ = [some (.fz (.scr ns)), y1, y2, y3])
    (by
      rintro d r ρ ⟨hd, y1, y2, y3, rfl⟩
      obtain ⟨k, rfl, hk⟩ := hd d (List.mem_cons_self ..)
      obtain ⟨pl, e1, p1⟩ := pool_ok (ns := ns) hk
      obtain ⟨d', y3', e2⟩ := in_ok (ns := ns) (y1 := some (.fz (.int k))) (y3 := y3) p1
      have s1 : sSet 2 (fCallF F__law_pool (aF (fV 0) (aF (fV 1) aNil))) [some (.fz (.scr ns)), some (.fz (.int k)), y2, y3] = some (.nx [some (.fz (.scr ns)), some (.fz (.int k)), some (.ow none pl), y3]) := by
        generalize F__law_pool = F at e1 ⊢
        simp [retL, gN, sNx, sSeq, sSet, sIf, sRet, sExpr, sPutL, fT, fOp2, fOp1, fCall, gets, fV, fC, fF, frz, Op.get, aNil, aB, aF, owd, L2.atI, L2.ixN, outL, inL, fCallF, callF, toLs, slotsOf, backL, dVals, fLst, fTup, vN, wipeR, backR, calmR, fMut, sPar, sFor, fLc, fRange1, fAnd, fOr, fNot, fB, sFldP, fMeth, fMethQ, fMake, fIterL, fIterT, fFld, ftYes, vT, vL, fEnum, e1]
      exact ⟨_, _, rfl, .inl (sSeq_nx s1 e2), ⟨fun d h => hd d (List.mem_cons_of_mem _ h), _, _, _, rfl⟩⟩)
    (rangeD 0 1 m.toNat) [some (.fz (.scr ns)), none, none, none] ⟨fun d h => by
      obtain ⟨i, hi, rfl⟩ := List.mem_map.mp h
      have := List.mem_range.mp hi
      exact ⟨_, rfl, by omega, by omega⟩, none, none, none, rfl⟩
  obtain ⟨_, y1, y2, y3, rfl⟩ := q2
  have ql : sRet (fC (.bl true)) [some (.fz (.scr ns)), y1, y2, y3] = some (.ret (.fz (.bl true)) [some (.fz (.scr ns)), y1, y2, y3]) := rfl
  exact ⟨_, fnS_ret rfl (sSeq_nx (sFor_ok (r1 ha ro) q1) ql) rfl⟩
end DV

set_option Elab.async false
set_option linter.all false
set_option maxRecDepth 100000
set_option maxHeartbeats 0
open PySem PySem.W PySem.Calls PyProof.Rows
set_option maxHeartbeats 0 in
set_option maxRecDepth 100000 in
theorem PySem.Challenge.cw_nestsums_k05_values_on_long_rows_holds : PySem.Challenge.rw_nestsums_k05_values_on_long_rows.Holds := by
  w_on; o_law
  refine HandSHeadRun.head_any (r := OpenLaw.row PySem.Challenge.rw_nestsums_k05_values_on_long_rows) (q := view (OpenLaw.row PySem.Challenge.rw_nestsums_k05_values_on_long_rows).prog [19]) (H := DV.hk) (ob := DV.ob) (M := 3000) (loose := ["NestError", "InvalidWord", "power_of", "is_word", "sum_on", "Formula", "word_formula", "_law_pool", "_law_draw", "_law_factor", "_law_letters", "_law_line", "_law_power", "_law_chosen", "_law_right"]) (d := HandSHeadRun.topDef (OpenLaw.row PySem.Challenge.rw_nestsums_k05_values_on_long_rows).prog 19) (kwd := []) DV.ob_eq
    (by kernel_rfl) (fun s => by kernel_rfl) DV.run (by kernel_rfl) (by kernel_rfl) (by kernel_rfl) (by rfl) (by first | assumption | decide +kernel) (by decide +kernel) ⟨rfl, rfl, rfl, rfl, rfl, by decide +kernel⟩ ?hw ?hc
  case hw => w_witness2
  case hc =>
    refine DV.walkG (l := PySem.Challenge.rw_nestsums_k05_values_on_long_rows) (n := 63) (k := 6) (x := "script") rfl (by decide) (by kernel_rfl) ⟨rfl, by decide, by decide⟩ ?F
    intro w mg fa h Y G hmg0
    obtain ⟨K, KX, c⟩ := Y
    have hmg : mg ("law" : PySem.Str) = some (.ref fa) := by
      have e : (HandSHeadRun.topDef (OpenLaw.row PySem.Challenge.rw_nestsums_k05_values_on_long_rows).prog 19).name = ("law" : PySem.Str) := by kernel_rfl
      rw [← e]
      exact hmg0
    obtain ⟨fd, F⟩ := c.2.def_ 14 (d := DV.d_law) rfl
    have e := hmg.symm.trans (He.glo_ok KX G (c.2.fact 12 (f := .glo "law") rfl))
    cases e
    have b := L2.FunD.bindsA (ps := ["script"]) F fun _ _ _ _ _ _ us hl => match us, hl with | [_], _ => rfl
    refine ⟨K, fd, DV.spF K DV.F_law, KX, fun s v => b s [v] rfl, fun H a ns _ _ hS => DV.spF_law hS (DV.law_ok ns), fun base KB GB => ?_⟩
    obtain ⟨fd', h1, h2, _⟩ := (DV.ok_law (P := PySem.Challenge.rw_nestsums_k05_values_on_long_rows.prog) (w := w) c KB GB).ex
    cases DV.FdAt.inj h1 (DV.FdAt.of F)
    exact h2
