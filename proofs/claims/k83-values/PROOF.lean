import PyProof.Rows.All
import Wide.All
import OpenK.AllK
import Wide.FinOn
import HandS.ForExc
import HandS.Comp
import HandS.CallSlots
import HandS.Text
import HandS.TupAny
import HandS.Deep
import HandS.Wide
import HandS.IsInst
import PyProof.Rows.StrMul
import HandS.StrMore
import HandS.Iter
import HandS.WordsExc
import KE.KExcSuper
import HandS.ExcField
import HandS.ExcIs
import KE.KIntText
import KE.IntText
import PyProof.Rows.StrOr
import PyProof.StrLawsFrom
import HandS.ForDict
import PySem.Challenge.RW_wishweather_k83_values
set_option Elab.async false
set_option linter.all false
set_option maxRecDepth 100000
set_option maxHeartbeats 2000000
/-! Pv part A: trees, what they stand for in the abstract heap, places in trees. -/
namespace Pv
open PySem L2

/-- a Python value as a tree -/
inductive T where
  | non | bl (b : Bool) | int (i : Int) | str (s : Str)
  | tup (ts : List T) | lst (ts : List T)
  | fro (ns : List Int)

mutual
/-- no list that may change is in it -/
def T.imm : T → Bool
  | .lst _ => false
  | .tup ts => T.imms ts
  | _ => true
def T.imms : List T → Bool
  | [] => true
  | t :: ts => t.imm && T.imms ts
end

mutual
/-- v is the tree t in the heap H; f: the addresses of its lists that may change -/
def Rep (K : PySem.W.Frag) (H : Hp) : T → V → List Addr → Prop
  | .non, v, f => v = .non ∧ f = []
  | .bl b, v, f => v = .bl b ∧ f = []
  | .int i, v, f => v = .int i ∧ f = []
  | .str s, v, f => v = .str s ∧ f = []
  | .tup ts, v, f => ∃ a vs, v = .ref a ∧ SqT K H a vs ∧ Reps K H ts vs f
  | .lst ts, v, f => ∃ a vs g, v = .ref a ∧ f = a :: g ∧ H a = some (.lst vs) ∧ Reps K H ts vs g
  | .fro ns, v, f => f = [] ∧ ∃ a, v = .ref a ∧ ((∃ o, H a = some (.frz o (.lst (ns.map .int)))) ∨ ∀ H', SqL K H' a (ns.map .int))
def Reps (K : PySem.W.Frag) (H : Hp) : List T → List V → List Addr → Prop
  | [], vs, f => vs = [] ∧ f = []
  | t :: ts, vs, f => ∃ v ws f1 f2, vs = v :: ws ∧ f = f1 ++ f2 ∧ Rep K H t v f1 ∧ Reps K H ts ws f2
end

section
variable {K : PySem.W.Frag} {H H' : Hp}

theorem Reps.len : ∀ {ts : List T} {vs : List V} {f : List Addr}, Reps K H ts vs f → vs.length = ts.length
  | [], _, _, h => by obtain ⟨rfl, _⟩ := h; rfl
  | t :: ts, _, _, h => by
    obtain ⟨v, ws, f1, f2, rfl, rfl, _, h2⟩ := h
    simp [Reps.len h2]

mutual
theorem Rep.imm_nil : ∀ {t : T} {v : V} {f : List Addr}, Rep K H t v f → t.imm = true → f = []
  | .non, _, _, h, _ => h.2
  | .bl _, _, _, h, _ => h.2
  | .int _, _, _, h, _ => h.2
  | .str _, _, _, h, _ => h.2
  | .tup ts, _, _, h, e => by
    obtain ⟨a, vs, _, _, r⟩ := h
    exact Reps.imm_nil r e
  | .lst _, _, _, _, e => by simp [T.imm] at e
  | .fro _, _, _, h, _ => h.1
theorem Reps.imm_nil : ∀ {ts : List T} {vs : List V} {f : List Addr}, Reps K H ts vs f → T.imms ts = true → f = []
  | [], _, _, h, _ => h.2
  | t :: ts, _, _, h, e => by
    obtain ⟨v, ws, f1, f2, rfl, rfl, h1, h2⟩ := h
    simp only [T.imms, Bool.and_eq_true] at e
    rw [Rep.imm_nil h1 e.1, Reps.imm_nil h2 e.2]
    rfl
end

/-! an owned address holds a list -/
mutual
theorem Rep.own : ∀ {t : T} {v : V} {f : List Addr}, Rep K H t v f → ∀ a ∈ f, ∃ xs, H a = some (.lst xs)
  | .non, _, _, h, a, ha => by rw [h.2] at ha; cases ha
  | .bl _, _, _, h, a, ha => by rw [h.2] at ha; cases ha
  | .int _, _, _, h, a, ha => by rw [h.2] at ha; cases ha
  | .str _, _, _, h, a, ha => by rw [h.2] at ha; cases ha
  | .tup ts, _, _, h, a, ha => by
    obtain ⟨b, vs, _, _, r⟩ := h
    exact Reps.own r a ha
  | .lst ts, _, _, h, a, ha => by
    obtain ⟨b, vs, g, _, rfl, hb, r⟩ := h
    rcases List.mem_cons.mp ha with rfl | ha
    · exact ⟨_, hb⟩
    · exact Reps.own r a ha
  | .fro _, _, _, h, a, ha => by rw [h.1] at ha; cases ha
theorem Reps.own : ∀ {ts : List T} {vs : List V} {f : List Addr}, Reps K H ts vs f → ∀ a ∈ f, ∃ xs, H a = some (.lst xs)
  | [], _, _, h, a, ha => by rw [h.2] at ha; cases ha
  | t :: ts, _, _, h, a, ha => by
    obtain ⟨v, ws, f1, f2, rfl, rfl, h1, h2⟩ := h
    rcases List.mem_append.mp ha with ha | ha
    · exact Rep.own h1 a ha
    · exact Reps.own h2 a ha
end

/-- G: what may change. What the tree stands on is kept -/
def Keep (G : Addr → Prop) (H H' : Hp) : Prop := ∀ a o, H a = some o → ¬ G a → H' a = some o
/-- what may change are lists -/
def Lists (G : Addr → Prop) (H : Hp) : Prop := ∀ a, G a → ∃ xs, H a = some (.lst xs)

theorem sqT_keep {G : Addr → Prop} (k : Keep G H H') (hl : Lists G H) {a : Addr} {vs : List V} (h : SqT K H a vs) : SqT K H' a vs := by
  rcases h with (h | ⟨o, h⟩) | h
  · exact .inl (.inl (k a _ h fun g => by obtain ⟨xs, e⟩ := hl a g; rw [h] at e; cases e))
  · exact .inl (.inr ⟨o, k a _ h fun g => by obtain ⟨xs, e⟩ := hl a g; rw [h] at e; cases e⟩)
  · exact .inr h

mutual
theorem Rep.keep {G : Addr → Prop} (k : Keep G H H') (hl : Lists G H) : ∀ {t : T} {v : V} {f : List Addr}, (∀ a ∈ f, ¬ G a) → Rep K H t v f → Rep K H' t v f
  | .non, _, _, _, h => h
  | .bl _, _, _, _, h => h
  | .int _, _, _, _, h => h
  | .str _, _, _, _, h => h
  | .tup ts, _, _, d, h => by
    obtain ⟨a, vs, e, s, r⟩ := h
    exact ⟨a, vs, e, sqT_keep k hl s, Reps.keep k hl d r⟩
  | .lst ts, _, _, d, h => by
    obtain ⟨a, vs, g, e, rfl, ha, r⟩ := h
    exact ⟨a, vs, g, e, rfl, k a _ ha (d a List.mem_cons_self), Reps.keep k hl (fun b hb => d b (List.mem_cons_of_mem _ hb)) r⟩
  | .fro ns, _, _, d, h => by
    obtain ⟨e, a, e2, h⟩ := h
    refine ⟨e, a, e2, ?_⟩
    rcases h with ⟨o, h⟩ | h
    · exact .inl ⟨o, k a _ h fun g => by obtain ⟨xs, e⟩ := hl a g; rw [h] at e; cases e⟩
    · exact .inr h
theorem Reps.keep {G : Addr → Prop} (k : Keep G H H') (hl : Lists G H) : ∀ {ts : List T} {vs : List V} {f : List Addr}, (∀ a ∈ f, ¬ G a) → Reps K H ts vs f → Reps K H' ts vs f
  | [], _, _, _, h => h
  | t :: ts, _, _, d, h => by
    obtain ⟨v, ws, f1, f2, rfl, rfl, h1, h2⟩ := h
    exact ⟨v, ws, f1, f2, rfl, rfl, Rep.keep k hl (fun a ha => d a (List.mem_append_left _ ha)) h1, Reps.keep k hl (fun a ha => d a (List.mem_append_right _ ha)) h2⟩
end

/-- all is kept -/
theorem Rep.ext (k : ∀ a o, H a = some o → H' a = some o) {t : T} {v : V} {f : List Addr} (h : Rep K H t v f) : Rep K H' t v f :=
  Rep.keep (G := fun _ => False) (fun a o e _ => k a o e) (fun _ z => z.elim) (fun _ _ z => z) h
theorem Reps.ext (k : ∀ a o, H a = some o → H' a = some o) {ts : List T} {vs : List V} {f : List Addr} (h : Reps K H ts vs f) : Reps K H' ts vs f :=
  Reps.keep (G := fun _ => False) (fun a o e _ => k a o e) (fun _ z => z.elim) (fun _ _ z => z) h

theorem Reps.append : ∀ {ts us : List T} {vs ws : List V} {f g : List Addr}, Reps K H ts vs f → Reps K H us ws g → Reps K H (ts ++ us) (vs ++ ws) (f ++ g)
  | [], _, _, _, _, _, h, h' => by obtain ⟨rfl, rfl⟩ := h; exact h'
  | t :: ts, _, _, _, _, _, h, h' => by
    obtain ⟨v, ws, f1, f2, rfl, rfl, h1, h2⟩ := h
    exact ⟨v, ws ++ _, f1, f2 ++ _, rfl, by simp, h1, Reps.append h2 h'⟩
theorem Reps.one {t : T} {v : V} {f : List Addr} (h : Rep K H t v f) : Reps K H [t] [v] f := ⟨v, [], f, [], rfl, by simp, h, rfl, rfl⟩

/-- the k-th item -/
theorem Reps.get : ∀ {ts : List T} {vs : List V} {f : List Addr} {k : Nat} {t : T}, Reps K H ts vs f → ts[k]? = some t →
    ∃ v f1 g f2, vs[k]? = some v ∧ f = f1 ++ g ++ f2 ∧ Rep K H t v g ∧ Reps K H (ts.take k) (vs.take k) f1 ∧ Reps K H (ts.drop (k + 1)) (vs.drop (k + 1)) f2
  | [], _, _, _, _, _, e => by simp at e
  | t :: ts, _, _, 0, s, h, e => by
    obtain ⟨v, ws, f1, f2, rfl, rfl, h1, h2⟩ := h
    have e' : t = s := by simpa using e
    subst e'
    exact ⟨v, [], f1, f2, rfl, by simp, h1, ⟨rfl, rfl⟩, h2⟩
  | t :: ts, _, _, k + 1, s, h, e => by
    obtain ⟨v, ws, f1, f2, rfl, rfl, h1, h2⟩ := h
    obtain ⟨v', g1, g, g2, a, b, c, d1, d2⟩ := Reps.get (k := k) h2 (by simpa using e)
    exact ⟨v', f1 ++ g1, g, g2, by simpa using a, by rw [b]; simp, c, ⟨v, ws.take k, f1, g1, by simp, rfl, h1, d1⟩, d2⟩
theorem Reps.take : ∀ {ts : List T} {vs : List V} {f : List Addr} (k : Nat), Reps K H ts vs f → ∃ f1 f2, f = f1 ++ f2 ∧ Reps K H (ts.take k) (vs.take k) f1 ∧ Reps K H (ts.drop k) (vs.drop k) f2
  | ts, vs, f, 0, h => ⟨[], f, rfl, ⟨by simp, rfl⟩, h⟩
  | [], _, _, k + 1, h => by
    obtain ⟨rfl, rfl⟩ := h
    exact ⟨[], [], rfl, ⟨rfl, rfl⟩, ⟨rfl, rfl⟩⟩
  | t :: ts, _, _, k + 1, h => by
    obtain ⟨v, ws, f1, f2, rfl, rfl, h1, h2⟩ := h
    obtain ⟨g1, g2, rfl, a, b⟩ := Reps.take k h2
    exact ⟨f1 ++ g1, g2, by simp, ⟨v, ws.take k, f1, g1, by simp, rfl, h1, a⟩, by simpa using b⟩

/-! ### places in a tree -/
/-- the items of a list or a tuple -/
def T.items : T → Option (List T)
  | .tup ts => some ts
  | .lst ts => some ts
  | _ => none
def T.at : T → List Nat → Option T
  | t, [] => some t
  | t, k :: p => match t.items with
    | some ts => match ts[k]? with
      | some s => s.at p
      | none => none
    | none => none
def T.remake : T → List T → T
  | .tup _, ts => .tup ts
  | .lst _, ts => .lst ts
  | t, _ => t
/-- t with s at the place -/
def T.put (s : T) : T → List Nat → T
  | _, [] => s
  | t, k :: p => match t.items with
    | some ts => match ts[k]? with
      | some u => t.remake (ts.set k (T.put s u p))
      | none => t
    | none => t
/-- t stands at u, on f; at the place p in it is s, at v, on g -/
def RepP (K : PySem.W.Frag) (H : Hp) : List Nat → T → V → List Addr → T → V → List Addr → Prop
  | [], t, u, f, s, v, g => t = s ∧ u = v ∧ f = g ∧ Rep K H t u f
  | k :: p, .lst ts, u, f, s, v, g => ∃ a vs x y f1 fm f2, u = .ref a ∧ f = a :: (f1 ++ fm ++ f2) ∧ H a = some (.lst vs) ∧ ts[k]? = some x ∧ vs[k]? = some y ∧
      Reps K H (ts.take k) (vs.take k) f1 ∧ RepP K H p x y fm s v g ∧ Reps K H (ts.drop (k + 1)) (vs.drop (k + 1)) f2
  | k :: p, .tup ts, u, f, s, v, g => ∃ a vs x y f1 fm f2, u = .ref a ∧ f = f1 ++ fm ++ f2 ∧ SqT K H a vs ∧ ts[k]? = some x ∧ vs[k]? = some y ∧
      Reps K H (ts.take k) (vs.take k) f1 ∧ RepP K H p x y fm s v g ∧ Reps K H (ts.drop (k + 1)) (vs.drop (k + 1)) f2
  | _ :: _, _, _, _, _, _, _ => False
theorem RepP.ext (kp : ∀ a o, H a = some o → H' a = some o) : ∀ {p : List Nat} {t s : T} {u v : V} {f g : List Addr}, RepP K H p t u f s v g → RepP K H' p t u f s v g
  | [], _, _, _, _, _, _, h => ⟨h.1, h.2.1, h.2.2.1, h.2.2.2.ext kp⟩
  | k :: p, .lst ts, _, _, _, _, _, h => by
    obtain ⟨a, vs, x, y, f1, fm, f2, h1, h2, h3, h4, h5, h6, h7, h8⟩ := h
    exact ⟨a, vs, x, y, f1, fm, f2, h1, h2, kp _ _ h3, h4, h5, h6.ext kp, RepP.ext kp h7, h8.ext kp⟩
  | k :: p, .tup ts, _, _, _, _, _, h => by
    obtain ⟨a, vs, x, y, f1, fm, f2, h1, h2, h3, h4, h5, h6, h7, h8⟩ := h
    exact ⟨a, vs, x, y, f1, fm, f2, h1, h2, sqT_keep (G := fun _ => False) (fun a o e _ => kp a o e) (fun _ z => z.elim) h3, h4, h5, h6.ext kp, RepP.ext kp h7, h8.ext kp⟩
theorem RepP.comp : ∀ {p q : List Nat} {t s x : T} {u v y : V} {f g h : List Addr}, RepP K H p t u f s v g → RepP K H q s v g x y h → RepP K H (p ++ q) t u f x y h
  | [], q, _, _, _, _, _, _, _, _, _, h, h' => by obtain ⟨rfl, rfl, rfl, _⟩ := h; exact h'
  | k :: p, q, .lst ts, _, _, _, _, _, _, _, _, h, h' => by
    obtain ⟨a, vs, x, y, f1, fm, f2, h1, h2, h3, h4, h5, h6, h7, h8⟩ := h
    exact ⟨a, vs, x, y, f1, fm, f2, h1, h2, h3, h4, h5, h6, RepP.comp h7 h', h8⟩
  | k :: p, q, .tup ts, _, _, _, _, _, _, _, _, h, h' => by
    obtain ⟨a, vs, x, y, f1, fm, f2, h1, h2, h3, h4, h5, h6, h7, h8⟩ := h
    exact ⟨a, vs, x, y, f1, fm, f2, h1, h2, h3, h4, h5, h6, RepP.comp h7 h', h8⟩

theorem reps_set {ts : List T} {vs : List V} {f1 g f2 : List Addr} {k : Nat} {s : T} {v : V} (hv : vs[k]? = some v) (hk : k < ts.length) (h1 : Reps K H (ts.take k) (vs.take k) f1) (h : Rep K H s v g)
    (h2 : Reps K H (ts.drop (k + 1)) (vs.drop (k + 1)) f2) : Reps K H (ts.set k s) vs (f1 ++ g ++ f2) := by
  have e1 : ts.set k s = ts.take k ++ (s :: ts.drop (k + 1)) := by
    rw [List.set_eq_take_append_cons_drop, if_pos hk]
  have e2 : vs = vs.take k ++ (v :: vs.drop (k + 1)) := by
    obtain ⟨hlt, e⟩ := List.getElem?_eq_some_iff.mp hv
    rw [← e, List.getElem_cons_drop, List.take_append_drop]
  rw [e1, e2, List.append_assoc]
  exact Reps.append (by simpa using h1) ⟨v, _, g, f2, rfl, rfl, h, h2⟩

theorem RepP.use : ∀ {p : List Nat} {t s : T} {u v : V} {f g : List Addr}, RepP K H p t u f s v g →
    Rep K H t u f ∧ Rep K H s v g ∧ t.at p = some s ∧ ∃ f1 f2, f = f1 ++ g ++ f2 ∧
      ∀ (H' : Hp) (s' : T) (g' : List Addr) (G : Addr → Prop), Keep G H H' → Lists G H → (∀ a ∈ f1, ¬ G a) → (∀ a ∈ f2, ¬ G a) → Rep K H' s' v g' → Rep K H' (T.put s' t p) u (f1 ++ g' ++ f2)
  | [], t, s, u, v, f, g, h => by
    obtain ⟨rfl, rfl, rfl, r⟩ := h
    exact ⟨r, r, by simp [T.at], [], [], by simp, fun H' s' g' _ _ _ _ _ r => by simpa [T.put] using r⟩
  | k :: p, .tup ts, s, u, v, f, g, h => by
    obtain ⟨b, vs, x, y, f1, fm, f2, rfl, rfl, sq, hk, hy, r1, rp, r2⟩ := h
    obtain ⟨rx, rs, ea, g1, g2, rfl, fin⟩ := RepP.use rp
    have klt : k < ts.length := (List.getElem?_eq_some_iff.mp hk).1
    have e0 : ts.set k x = ts := by
      obtain ⟨hlt, e⟩ := List.getElem?_eq_some_iff.mp hk
      rw [← e, List.set_getElem_self]
    have r0 := reps_set hy klt r1 rx r2
    rw [e0] at r0
    refine ⟨⟨b, vs, rfl, sq, r0⟩, rs, by simp [T.at, T.items, hk, ea], f1 ++ g1, g2 ++ f2, by simp, fun H' s' g' G kp hl d1 d2 r' => ?_⟩
    have z := fin H' s' g' G kp hl (fun a h => d1 a (List.mem_append_right _ h)) (fun a h => d2 a (List.mem_append_left _ h)) r'
    have q := reps_set hy klt (Reps.keep kp hl (fun a h => d1 a (List.mem_append_left _ h)) r1) z (Reps.keep kp hl (fun a h => d2 a (List.mem_append_right _ h)) r2)
    simp only [T.put, T.items, hk, T.remake]
    exact ⟨b, vs, rfl, sqT_keep kp hl sq, by simpa using q⟩
  | k :: p, .lst ts, s, u, v, f, g, h => by
    obtain ⟨b, vs, x, y, f1, fm, f2, rfl, rfl, sq, hk, hy, r1, rp, r2⟩ := h
    obtain ⟨rx, rs, ea, g1, g2, rfl, fin⟩ := RepP.use rp
    have klt : k < ts.length := (List.getElem?_eq_some_iff.mp hk).1
    have e0 : ts.set k x = ts := by
      obtain ⟨hlt, e⟩ := List.getElem?_eq_some_iff.mp hk
      rw [← e, List.set_getElem_self]
    have r0 := reps_set hy klt r1 rx r2
    rw [e0] at r0
    refine ⟨⟨b, vs, _, rfl, rfl, sq, r0⟩, rs, by simp [T.at, T.items, hk, ea], b :: (f1 ++ g1), g2 ++ f2, by simp, fun H' s' g' G kp hl d1 d2 r' => ?_⟩
    have z := fin H' s' g' G kp hl (fun a h => d1 a (List.mem_cons_of_mem _ (List.mem_append_right _ h))) (fun a h => d2 a (List.mem_append_left _ h)) r'
    have q := reps_set hy klt (Reps.keep kp hl (fun a h => d1 a (List.mem_cons_of_mem _ (List.mem_append_left _ h))) r1) z (Reps.keep kp hl (fun a h => d2 a (List.mem_append_right _ h)) r2)
    simp only [T.put, T.items, hk, T.remake]
    exact ⟨b, vs, _, rfl, rfl, kp b _ sq (d1 b List.mem_cons_self), by simpa using q⟩
end
end Pv
set_option Elab.async false
set_option linter.all false
set_option maxRecDepth 100000
set_option maxHeartbeats 2000000
/-! Pv part B: states, steps, outcomes; what an expression's reading is. -/
namespace Pv
open PySem L2

abbrev Rho := List (Option T)
/-- an outcome: a value of its own, or a place in a slot's tree -/
inductive O where
  | v (t : T) | p (i : Nat) (path : List Nat)
def O.isV : O → Bool
  | .v _ => true
  | .p _ _ => false
/-- a place within a slot's tree (not the whole) -/
def O.deep : O → Bool
  | .p _ (_ :: _) => true
  | _ => false
def getO (ρ : Rho) : O → Option T
  | .v t => some t
  | .p i path => match ρ[i]? with
    | some (some t) => t.at path
    | _ => none
inductive R where
  | ok (o : O) (ρ : Rho) (τ : Bool) | ex (c : Nat) (t : T) (ρ : Rho) | stuck
inductive RL where
  | ok (os : List O) (ρ : Rho) (τ : Bool) | ex (c : Nat) (t : T) (ρ : Rho) | stuck
inductive RB where
  | ok (b : Bool) (ρ : Rho) (τ : Bool) | ex (c : Nat) (t : T) (ρ : Rho) | stuck
inductive RS where
  | nx (ρ : Rho) | ret (t : T) (ρ : Rho) | bk (ρ : Rho) | ct (ρ : Rho) | ex (c : Nat) (t : T) (ρ : Rho) | stuck

abbrev Fp := Nat → List Addr
def In (fp : Fp) (a : Addr) : Prop := ∃ i, a ∈ fp i

structure Env (K : PySem.W.Frag) (ρ : Rho) (fp : Fp) (σ : L2.St) (H : Hp) : Prop where
  len : σ.length = ρ.length
  rep : ∀ i t, ρ[i]? = some (some t) → ∃ v, σ[i]? = some (some v) ∧ Rep K H t v (fp i)
  emp : ∀ i, (∀ t, ρ[i]? ≠ some (some t)) → fp i = []
  nd : ∀ i, (fp i).Nodup
  dj : ∀ i j a, a ∈ fp i → a ∈ fp j → i = j

structure Step (fp : Fp) (H : Hp) (fp' : Fp) (fo : List Addr) (H' : Hp) : Prop where
  keep : Keep (In fp) H H'
  sub : ∀ a, In fp' a ∨ a ∈ fo → In fp a ∨ H a = none
  nd : fo.Nodup
  dj : ∀ a ∈ fo, ¬ In fp' a

section
variable {K : PySem.W.Frag} {ρ ρ1 ρ2 : Rho} {fp fp1 fp2 : Fp} {σ : L2.St} {H H1 H2 : Hp} {fo fo1 fo2 : List Addr}

theorem Env.own (e : Env K ρ fp σ H) : Lists (In fp) H := fun a ⟨i, hi⟩ => by
  by_cases h : ∃ t, ρ[i]? = some (some t)
  · obtain ⟨t, h⟩ := h
    obtain ⟨v, _, r⟩ := e.rep i t h
    exact r.own a hi
  · rw [e.emp i fun t z => h ⟨t, z⟩] at hi
    cases hi
theorem Env.ext (e : Env K ρ fp σ H) (k : ∀ a o, H a = some o → H1 a = some o) : Env K ρ fp σ H1 :=
  ⟨e.len, fun i t h => by obtain ⟨v, a, r⟩ := e.rep i t h; exact ⟨v, a, r.ext k⟩, e.emp, e.nd, e.dj⟩
theorem Step.refl : Step fp H fp [] H := ⟨fun _ _ h _ => h, fun a h => .inl (by rcases h with h | h; exact h; cases h), .nil, fun _ h => by cases h⟩
theorem Step.ext (k : ∀ a o, H a = some o → H1 a = some o) : Step fp H fp [] H1 := ⟨fun a o h _ => k a o h, fun a h => .inl (by rcases h with h | h; exact h; cases h), .nil, fun _ h => by cases h⟩
theorem Step.drop (s : Step fp H fp1 fo H1) : Step fp H fp1 [] H1 := ⟨s.keep, fun a h => s.sub a (by rcases h with h | h; exact .inl h; cases h), .nil, fun _ h => by cases h⟩
theorem Step.back (s : Step fp H fp1 fo1 H1) {a : Addr} (h : H1 a = none) : In fp a ∨ H a = none := by
  by_cases hi : In fp a
  · exact .inl hi
  · refine .inr ?_
    cases e : H a with
    | none => rfl
    | some o => rw [s.keep a o e hi] at h; cases h
theorem Step.trans (s1 : Step fp H fp1 fo1 H1) (o1 : ∀ a ∈ fo1, H1 a ≠ none) (s2 : Step fp1 H1 fp2 fo2 H2) : Step fp H fp2 (fo1 ++ fo2) H2 := by
  have old : ∀ a, In fp1 a ∨ a ∈ fo1 ∨ H1 a = none → In fp a ∨ H a = none := fun a h => by
    rcases h with h | h | h
    · exact s1.sub a (.inl h)
    · exact s1.sub a (.inr h)
    · exact s1.back h
  refine ⟨fun a o e n => ?_, fun a h => ?_, ?_, fun a h => ?_⟩
  · refine s2.keep a o (s1.keep a o e n) fun h => ?_
    rcases s1.sub a (.inl h) with z | z
    · exact n z
    · rw [e] at z; cases z
  · rcases h with h | h
    · rcases s2.sub a (.inl h) with z | z
      · exact old a (.inl z)
      · exact old a (.inr (.inr z))
    · rcases List.mem_append.mp h with h | h
      · exact old a (.inr (.inl h))
      · rcases s2.sub a (.inr h) with z | z
        · exact old a (.inl z)
        · exact old a (.inr (.inr z))
  · refine List.nodup_append.mpr ⟨s1.nd, s2.nd, fun a h1 b h2 e => ?_⟩
    subst e
    rcases s2.sub a (.inr h2) with z | z
    · exact s1.dj a h1 z
    · exact o1 a h1 z
  · rcases List.mem_append.mp h with h | h
    · intro z
      rcases s2.sub a (.inl z) with z | z
      · exact s1.dj a h z
      · exact o1 a h z
    · exact s2.dj a h
theorem Step.trans0 (s1 : Step fp H fp1 [] H1) (s2 : Step fp1 H1 fp2 fo2 H2) : Step fp H fp2 fo2 H2 := s1.trans (fun _ h => by cases h) s2
/-- what is owned may be split off and forgotten -/
theorem Step.less (s : Step fp H fp1 fo H1) (h : fo1.Sublist fo) : Step fp H fp1 fo1 H1 :=
  ⟨s.keep, fun a z => s.sub a (by rcases z with z | z; exact .inl z; exact .inr (h.subset z)), s.nd.sublist h, fun a z => s.dj a (h.subset z)⟩

def Quiet (ρ : Rho) (fp : Fp) (H : Hp) (ρ' : Rho) (fp' : Fp) (H' : Hp) : Prop := ρ' = ρ ∧ fp' = fp ∧ ∀ a o, H a = some o → H' a = some o
theorem Quiet.refl : Quiet ρ fp H ρ fp H := ⟨rfl, rfl, fun _ _ h => h⟩
theorem Quiet.trans (a : Quiet ρ fp H ρ1 fp1 H1) (b : Quiet ρ1 fp1 H1 ρ2 fp2 H2) : Quiet ρ fp H ρ2 fp2 H2 :=
  ⟨b.1.trans a.1, b.2.1.trans a.2.1, fun x o h => b.2.2 x o (a.2.2 x o h)⟩

/-- the outcome o stands at v, on fo of its own -/
def OR (K : PySem.W.Frag) (ρ : Rho) (fp : Fp) (σ : L2.St) (H : Hp) : O → V → List Addr → Prop
  | .v t, v, fo => Rep K H t v fo
  | .p i path, v, fo => fo = [] ∧ ∃ u t s g, σ[i]? = some (some u) ∧ ρ[i]? = some (some t) ∧ RepP K H path t u (fp i) s v g
def ORs (K : PySem.W.Frag) (ρ : Rho) (fp : Fp) (σ : L2.St) (H : Hp) : List O → List V → List Addr → Prop
  | [], vs, fo => vs = [] ∧ fo = []
  | o :: os, vs, fo => ∃ v ws f1 f2, vs = v :: ws ∧ fo = f1 ++ f2 ∧ OR K ρ fp σ H o v f1 ∧ ORs K ρ fp σ H os ws f2
theorem OR.own {o : O} {v : V} (h : OR K ρ fp σ H o v fo) : ∀ a ∈ fo, H a ≠ none := by
  cases o with
  | v t =>
    intro a ha
    obtain ⟨xs, e⟩ := Rep.own (show Rep K H t v fo from h) a ha
    rw [e]; exact fun z => by cases z
  | p i path => intro a ha; rw [h.1] at ha; cases ha
theorem ORs.own : ∀ {os : List O} {vs : List V} {fo : List Addr}, ORs K ρ fp σ H os vs fo → ∀ a ∈ fo, H a ≠ none
  | [], _, _, h, a, ha => by rw [h.2] at ha; cases ha
  | o :: os, _, _, h, a, ha => by
    obtain ⟨v, ws, f1, f2, rfl, rfl, h1, h2⟩ := h
    rcases List.mem_append.mp ha with ha | ha
    · exact h1.own a ha
    · exact ORs.own h2 a ha
/-- the tree of an outcome -/
theorem OR.get {o : O} {v : V} {t : T} (e : Env K ρ fp σ H) (h : OR K ρ fp σ H o v fo) (g : getO ρ o = some t) : ∃ f, Rep K H t v f ∧ f.Nodup = f.Nodup ∧ (o.isV = true → f = fo) := by
  cases o with
  | v s =>
    cases g
    exact ⟨fo, h, rfl, fun _ => rfl⟩
  | p i path =>
    obtain ⟨_, u, t', s, g', h1, h2, h3⟩ := h
    obtain ⟨_, r, ea, _⟩ := h3.use
    simp only [getO, h2, ea] at g
    cases g
    exact ⟨g', r, rfl, fun z => by cases z⟩
/-- a pending outcome behind a further evaluation -/
theorem OR.pend {o : O} {v : V} {τ : Bool} (e1 : Env K ρ1 fp1 σ H1) (h : OR K ρ1 fp1 σ H1 o v fo1) (d : ∀ a ∈ fo1, ¬ In fp1 a) (e2 : Env K ρ2 fp2 σ H2) (s2 : Step fp1 H1 fp2 fo2 H2)
    (q : τ = false → Quiet ρ1 fp1 H1 ρ2 fp2 H2) (ok : o.deep = true → τ = false) (ok2 : ∀ i, o = .p i [] → ∃ t, ρ2[i]? = some (some t)) : OR K ρ2 fp2 σ H2 o v fo1 := by
  cases o with
  | v t => exact Rep.keep s2.keep e1.own d (show Rep K H1 t v fo1 from h)
  | p i path =>
    obtain ⟨z, u, t, s, g, h1, h2, h3⟩ := h
    cases path with
    | nil =>
      obtain ⟨t', ht'⟩ := ok2 i rfl
      obtain ⟨v', hv', r⟩ := e2.rep i t' ht'
      rw [h1] at hv'
      cases hv'
      obtain ⟨_, rfl, _, _⟩ := h3
      exact ⟨z, u, t', t', fp2 i, h1, ht', rfl, rfl, rfl, r⟩
    | cons k p =>
      obtain ⟨rfl, rfl, kk⟩ := q (ok rfl)
      exact ⟨z, u, t, s, g, h1, h2, h3.ext kk⟩
end

/-! ### exceptions -/
structure XI where
  xc : Nat → Addr
  xf : Nat → Str
def XRep (K : PySem.W.Frag) (xi : XI) (H : Hp) (d : Addr) (c : Nat) (t : T) : Prop :=
  ∃ fs v, H d = some (.xd fs) ∧ fs.lookup (xi.xf c) = some v ∧ Rep K H t v [] ∧ t.imm = true

/-! ### readings -/
def postE (K : PySem.W.Frag) (xi : XI) (W : WX) (σ : L2.St) (fp : Fp) (H : Hp) (ρ : Rho) (Q : V → Hp → Prop) : R → Prop
  | .ok o ρ' τ => ∀ v H' fp' fo, Env K ρ' fp' σ H' → Step fp H fp' fo H' → (τ = false → Quiet ρ fp H ρ' fp' H') → OR K ρ' fp' σ H' o v fo → Q v H'
  | .ex c t ρ' => ∀ d H' fp', Env K ρ' fp' σ H' → Step fp H fp' [] H' → XRep K xi H' d c t → W (.ref (xi.xc c)) (some d) σ H'
  | .stuck => False
def tE (K : PySem.W.Frag) (xi : XI) (W : WX) (sem : Rho → R) : TE := fun σ H Q => ∃ ρ fp, Env K ρ fp σ H ∧ postE K xi W σ fp H ρ Q (sem ρ)
def postL (K : PySem.W.Frag) (xi : XI) (W : WX) (σ : L2.St) (fp : Fp) (H : Hp) (ρ : Rho) (Q : List V → Hp → Prop) : RL → Prop
  | .ok os ρ' τ => ∀ vs H' fp' fo, Env K ρ' fp' σ H' → Step fp H fp' fo H' → (τ = false → Quiet ρ fp H ρ' fp' H') → ORs K ρ' fp' σ H' os vs fo → Q vs H'
  | .ex c t ρ' => ∀ d H' fp', Env K ρ' fp' σ H' → Step fp H fp' [] H' → XRep K xi H' d c t → W (.ref (xi.xc c)) (some d) σ H'
  | .stuck => False
def tL (K : PySem.W.Frag) (xi : XI) (W : WX) (sem : Rho → RL) : TA := fun σ H Q => ∃ ρ fp, Env K ρ fp σ H ∧ postL K xi W σ fp H ρ Q (sem ρ)
def postB (K : PySem.W.Frag) (xi : XI) (W : WX) (σ : L2.St) (fp : Fp) (H : Hp) (ρ : Rho) (Q : Bool → Hp → Prop) : RB → Prop
  | .ok b ρ' τ => ∀ H' fp', Env K ρ' fp' σ H' → Step fp H fp' [] H' → (τ = false → Quiet ρ fp H ρ' fp' H') → Q b H'
  | .ex c t ρ' => ∀ d H' fp', Env K ρ' fp' σ H' → Step fp H fp' [] H' → XRep K xi H' d c t → W (.ref (xi.xc c)) (some d) σ H'
  | .stuck => False
def tT (K : PySem.W.Frag) (xi : XI) (W : WX) (sem : Rho → RB) : TT := fun σ H Q => ∃ ρ fp, Env K ρ fp σ H ∧ postB K xi W σ fp H ρ Q (sem ρ)

/-- is the slot of a whole-slot place still there -/
def O.there (ρ : Rho) : O → Bool
  | .p i [] => match ρ[i]? with
    | some (some _) => true
    | _ => false
  | _ => true
/-- one after another -/
def evL : List (Rho → R) → Rho → RL
  | [], ρ => .ok [] ρ false
  | s :: ss, ρ => match s ρ with
    | .ok o ρ1 τ1 => match evL ss ρ1 with
      | .ok os ρ2 τ2 => if (o.deep && τ2) || !o.there ρ2 then .stuck else .ok (o :: os) ρ2 (τ1 || τ2)
      | .ex c t ρ2 => .ex c t ρ2
      | .stuck => .stuck
    | .ex c t ρ1 => .ex c t ρ1
    | .stuck => .stuck

theorem there_get {ρ : Rho} {o : O} (h : o.there ρ = true) : ∀ i, o = .p i [] → ∃ t, ρ[i]? = some (some t) := by
  rintro i rfl
  simp only [O.there] at h
  cases e : ρ[i]? with
  | none => rw [e] at h; cases h
  | some x =>
    cases x with
    | none => rw [e] at h; cases h
    | some t => exact ⟨t, rfl⟩

/-- the nested readings of HandS, by the list's -/
def nest (K : PySem.W.Frag) (xi : XI) (W : WX) : List (Rho → R) → TA
  | [] => tNil
  | s :: ss => tCons (tE K xi W s) (nest K xi W ss)
theorem nest_of {K : PySem.W.Frag} {xi : XI} {W : WX} : ∀ {ss : List (Rho → R)} {σ : L2.St} {H : Hp} {Q : List V → Hp → Prop}, tL K xi W (evL ss) σ H Q → nest K xi W ss σ H Q
  | [], σ, H, Q, h => by
    obtain ⟨ρ, fp, e, h⟩ := h
    exact h [] H fp [] e Step.refl (fun _ => Quiet.refl) ⟨rfl, rfl⟩
  | s :: ss, σ, H, Q, h => by
    obtain ⟨ρ, fp, e, h⟩ := h
    refine ⟨ρ, fp, e, ?_⟩
    simp only [evL] at h
    cases hs : s ρ with
    | stuck => rw [hs] at h; exact h
    | ex c t ρ1 => rw [hs] at h; exact h
    | ok o ρ1 τ1 =>
      rw [hs] at h
      intro v H1 fp1 fo1 e1 s1 q1 r1
      refine nest_of (ss := ss) ⟨ρ1, fp1, e1, ?_⟩
      simp only at h
      cases hr : evL ss ρ1 with
      | stuck => rw [hr] at h; exact h
      | ex c t ρ2 =>
        rw [hr] at h
        exact fun d H2 fp2 e2 s2 x => h d H2 fp2 e2 (s1.drop.trans0 s2) x
      | ok os ρ2 τ2 =>
        rw [hr] at h
        simp only at h
        by_cases c : ((o.deep && τ2) || !o.there ρ2) = true
        · rw [if_pos c] at h; exact h.elim
        · rw [if_neg c] at h
          simp only [Bool.or_eq_true, Bool.and_eq_true, Bool.not_eq_true', not_or, not_and, Bool.not_eq_true, Bool.not_eq_false] at c
          intro vs H2 fp2 fo2 e2 s2 q2 r2
          refine h (v :: vs) H2 fp2 (fo1 ++ fo2) e2 (s1.trans r1.own s2) (fun z => ?_) ⟨v, vs, fo1, fo2, rfl, rfl, OR.pend e1 r1 s1.dj e2 s2 q2 c.1 (there_get c.2), r2⟩
          simp only [Bool.or_eq_false_iff] at z
          exact (q1 z.1).trans (q2 z.2)

/-! ### the module's facts, the context -/
structure Gm where
  P : Program
  w : World
  K : PySem.W.Frag
  mg : Str → Option Value
  base : Heap
  xi : XI
abbrev gm (X : Cx) (xi : XI) : Gm := ⟨X.prog, X.w, X.K, X.mg, X.base, xi⟩
structure Gd (X : Cx) (xi : XI) (N : List Str) (sc : Scope) (lvl : Nat) (cm : Bool) (W : WX) : Prop where
  hN : X.N = N
  nd : N.Nodup
  hsc : X.env.scope = sc
  hcm : cm = true → X.calm = true
  room : cm = true → Room lvl X.A
  un : X.A.units + 100 < cLine
  tk : Takes X W

theorem PE.to {X : Cx} {e : Expr} {t t' : TE} (h : PE X e t) (w : ∀ σ H Q, t' σ H Q → t σ H Q) : PE X e t' := ⟨fun pins s σ H Q I q => h.run pins s σ H Q I (w σ H Q q)⟩
theorem PT.to {X : Cx} {e : Expr} {t t' : TT} (h : PT X e t) (w : ∀ σ H Q, t' σ H Q → t σ H Q) : PT X e t' := ⟨fun pins s σ H Q I q => h.run pins s σ H Q I (w σ H Q q)⟩
theorem PA.to {X : Cx} {e : List Expr} {t t' : TA} (h : PA X e t) (w : ∀ σ H Q, t' σ H Q → t σ H Q) : PA X e t' := ⟨fun pos pins s σ H Q I q => h.run pos pins s σ H Q I (w σ H Q q)⟩
theorem PS.to {X : Cx} {e : Stmt} {t t' : TS} (h : PS X e t) (w : ∀ D σ H, t' D σ H → t D σ H) : PS X e t' := ⟨fun pins s σ H D I q => h.run pins s σ H D I (w D σ H q)⟩
theorem PSs.to {X : Cx} {e : List Stmt} {t t' : TS} (h : PSs X e t) (w : ∀ D σ H, t' D σ H → t D σ H) : PSs X e t' := ⟨fun pins s σ H D I q => h.run pins s σ H D I (w D σ H q)⟩

/-- an expression of ours: what it gives, which syntax it is, what it leans on, that it is right -/
structure Ex where
  sem : Rho → R
  m : List Str → Scope → Bool → Expr → Bool
  pre : Gm → Nat → Prop
  snd : ∀ {X : Cx} {xi : XI} {N : List Str} {sc : Scope} {lvl : Nat} {cm : Bool} {W : WX} {x : Expr}, Gd X xi N sc lvl cm W → pre (gm X xi) lvl → m N sc cm x = true → PE X x (tE X.K xi W sem)
structure Xs where
  sems : List (Rho → R)
  m : List Str → Scope → Bool → List Expr → Bool
  pre : Gm → Nat → Prop
  snd : ∀ {X : Cx} {xi : XI} {N : List Str} {sc : Scope} {lvl : Nat} {cm : Bool} {W : WX} {x : List Expr}, Gd X xi N sc lvl cm W → pre (gm X xi) lvl → m N sc cm x = true → PA X x (nest X.K xi W sems)
structure Bx where
  sem : Rho → RB
  m : List Str → Scope → Bool → Expr → Bool
  pre : Gm → Nat → Prop
  snd : ∀ {X : Cx} {xi : XI} {N : List Str} {sc : Scope} {lvl : Nat} {cm : Bool} {W : WX} {x : Expr}, Gd X xi N sc lvl cm W → pre (gm X xi) lvl → m N sc cm x = true → PT X x (tT X.K xi W sem)

/-! ### syntax: what an expression is not -/
def notStar : Expr → Bool
  | .Starred _ _ => false
  | _ => true
theorem starEach_of {x : Expr} {es : List Expr} {env : PySem.Env} (h : notStar x = true) : starEach (x :: es) env = (false, eval x env) :: starEach es env := by
  cases x <;> first | rfl | cases h
def xNil : Xs := ⟨[], fun _ _ _ es => es.isEmpty, fun _ _ => True, fun {X xi N sc lvl cm W x} g p h => by
  cases x with
  | nil => exact pa_nil
  | cons => cases h⟩
def xCons (a : Ex) (r : Xs) : Xs where
  sems := a.sem :: r.sems
  m := fun N sc cm es => match es with
    | e :: es => notStar e && (a.m N sc cm e && r.m N sc cm es)
    | [] => false
  pre := fun Γ k => a.pre Γ k ∧ r.pre Γ k
  snd := fun {X xi N sc lvl cm W x} g p h => by
    cases x with
    | nil => cases h
    | cons e es =>
      simp only [Bool.and_eq_true] at h
      exact pa_cons (a.snd g p.1 h.2.1) (r.snd g p.2 h.2.2) (starEach_of h.1)
def xs (l : List Ex) : Xs := l.foldr xCons xNil
end Pv
set_option Elab.async false
set_option linter.all false
set_option maxRecDepth 100000
set_option maxHeartbeats 2000000
/-! Pv part C: expressions. -/
namespace Pv
open PySem L2

/-- what an operation that changes nothing gives: the tree t, on part of fo or on new lists -/
def PureRes (K : PySem.W.Frag) (H : Hp) (fo : List Addr) (t : T) (Q : V → Hp → Prop) : Prop :=
  ∀ v H' fo', (∀ a o, H a = some o → H' a = some o) → Rep K H' t v fo' → (∀ a ∈ fo', a ∈ fo ∨ H a = none) → fo'.Nodup → Q v H'
def OpOkL (K : PySem.W.Frag) (f : Rho → List O → Option T) (r : List V → Hp → VK → Prop) : Prop :=
  ∀ ρ fp σ H os vs fo t, Env K ρ fp σ H → ORs K ρ fp σ H os vs fo → fo.Nodup → f ρ os = some t → ∀ Q, PureRes K H fo t Q → r vs H Q
def opSem (ss : List (Rho → R)) (f : Rho → List O → Option T) : Rho → R := fun ρ => match evL ss ρ with
  | .ok os ρ' τ => match f ρ' os with
    | some t => .ok (.v t) ρ' τ
    | none => .stuck
  | .ex c t ρ' => .ex c t ρ'
  | .stuck => .stuck

section
variable {K : PySem.W.Frag} {xi : XI} {W : WX} {ρ ρ' : Rho} {fp fp' : Fp} {σ : L2.St} {H H' : Hp} {fo : List Addr} {t : T} {τ : Bool} {Q : V → Hp → Prop}
theorem fin_pure (e : Env K ρ' fp' σ H') (s : Step fp H fp' fo H') (q : τ = false → Quiet ρ fp H ρ' fp' H') (h : postE K xi W σ fp H ρ Q (.ok (.v t) ρ' τ)) : PureRes K H' fo t Q := by
  intro v H2 fo2 k r sub nd
  refine h v H2 fp' fo2 (e.ext k) ⟨fun a o z n => k a o (s.keep a o z n), fun a z => ?_, nd, fun a z w => ?_⟩ (fun z => (q z).trans ⟨rfl, rfl, k⟩) r
  · rcases z with z | z
    · exact s.sub a (.inl z)
    · rcases sub a z with z | z
      · exact s.sub a (.inr z)
      · exact s.back z
  · rcases sub a z with z | z
    · exact s.dj a z w
    · obtain ⟨xs, e⟩ := e.own a w
      rw [e] at z; cases z
theorem op_to {ss : List (Rho → R)} {f : Rho → List O → Option T} {r : List V → Hp → VK → Prop} (ok : OpOkL K f r) (h : tE K xi W (opSem ss f) σ H Q) : nest K xi W ss σ H fun vs H1 => r vs H1 Q := by
  obtain ⟨ρ, fp, e, h⟩ := h
  refine nest_of ⟨ρ, fp, e, ?_⟩
  simp only [opSem] at h
  cases hs : evL ss ρ with
  | stuck => rw [hs] at h; exact h
  | ex c t ρ1 => rw [hs] at h; exact h
  | ok os ρ1 τ1 =>
    rw [hs] at h
    simp only at h
    cases hf : f ρ1 os with
    | none => rw [hf] at h; exact h.elim
    | some t =>
      rw [hf] at h
      exact fun vs H1 fp1 fo1 e1 s1 q1 r1 => ok ρ1 fp1 σ H1 os vs fo1 t e1 r1 s1.nd hf Q (fin_pure e1 s1 q1 h)
/-- a plain value -/
theorem PureRes.v {v : V} (h : PureRes K H fo t Q) (r : Rep K H t v []) : Q v H := h v H [] (fun _ _ z => z) r (fun _ z => by cases z) .nil
/-- a new tuple, a new list -/
theorem PureRes.tup {ts : List T} {vs : List V} {g : List Addr} (h : PureRes K H fo (.tup ts) Q) (r : Reps K H ts vs g) (sub : ∀ a ∈ g, a ∈ fo) (nd : g.Nodup) : ∀ p, H p = none → Q (.ref p) (upd H p (.tup vs)) := fun p hp => by
  have k : ∀ a o, H a = some o → upd H p (.tup vs) a = some o := fun a o e => by rw [upd_ne (ne_of_none e hp)]; exact e
  exact h (.ref p) _ g k ⟨p, vs, rfl, SqT.of upd_same, r.ext k⟩ (fun a z => .inl (sub a z)) nd
theorem PureRes.lst {ts : List T} {vs : List V} {g : List Addr} (h : PureRes K H fo (.lst ts) Q) (r : Reps K H ts vs g) (sub : ∀ a ∈ g, a ∈ fo) (nd : g.Nodup) : ∀ p, H p = none → Q (.ref p) (upd H p (.lst vs)) := fun p hp => by
  have k : ∀ a o, H a = some o → upd H p (.lst vs) a = some o := fun a o e => by rw [upd_ne (ne_of_none e hp)]; exact e
  refine h (.ref p) _ (p :: g) k ⟨p, vs, g, rfl, rfl, upd_same, r.ext k⟩ (fun a z => ?_) (List.nodup_cons.mpr ⟨fun z => ?_, nd⟩)
  · rcases List.mem_cons.mp z with rfl | z
    · exact .inr hp
    · exact .inl (sub a z)
  · obtain ⟨xs, e⟩ := Reps.own r p z
    rw [e] at hp; cases hp
end

def f1 (g : T → Option T) (ρ : Rho) : List O → Option T
  | [a] => match getO ρ a with
    | some s => g s
    | none => none
  | _ => none
def f2 (g : T → T → Option T) (ρ : Rho) : List O → Option T
  | [a, b] => match getO ρ a, getO ρ b with
    | some s, some t => g s t
    | _, _ => none
  | _ => none
def f3 (g : T → T → T → Option T) (ρ : Rho) : List O → Option T
  | [a, b, c] => match getO ρ a, getO ρ b, getO ρ c with
    | some s, some t, some u => g s t u
    | _, _, _ => none
  | _ => none
theorem PureRes.less {K : PySem.W.Frag} {H : Hp} {fo : List Addr} {t : T} {Q : V → Hp → Prop} (h : PureRes K H fo t Q) : PureRes K H [] t Q :=
  fun v H' fo' k r s n => h v H' fo' k r (fun a z => by rcases s a z with z | z; cases z; exact .inr z) n
theorem ok1 {K : PySem.W.Frag} {g : T → Option T} {r : List V → Hp → VK → Prop} (h : ∀ H s u x fx, g s = some u → Rep K H s x fx → ∀ Q, PureRes K H [] u Q → r [x] H Q) : OpOkL K (f1 g) r := by
  intro ρ fp σ H os vs fo t e o nd hf Q p
  rcases os with _ | ⟨a, _ | ⟨b, os⟩⟩
  · simp only [f1] at hf; cases hf
  · obtain ⟨x, ws, f1', f2', rfl, rfl, o1, rfl, rfl⟩ := o
    simp only [f1] at hf
    cases ea : getO ρ a with
    | none => rw [ea] at hf; cases hf
    | some s =>
      rw [ea] at hf
      obtain ⟨fx, rx, _⟩ := o1.get e ea
      exact h H s t x fx hf rx Q p.less
  · simp only [f1] at hf; cases hf
theorem ok2 {K : PySem.W.Frag} {g : T → T → Option T} {r : List V → Hp → VK → Prop} (h : ∀ H s t u x y fx fy, g s t = some u → Rep K H s x fx → Rep K H t y fy → ∀ Q, PureRes K H [] u Q → r [x, y] H Q) : OpOkL K (f2 g) r := by
  intro ρ fp σ H os vs fo t e o nd hf Q p
  rcases os with _ | ⟨a, _ | ⟨b, _ | ⟨c, os⟩⟩⟩
  · simp only [f2] at hf; cases hf
  · simp only [f2] at hf; cases hf
  · obtain ⟨x, ws, f1', f2', rfl, rfl, o1, y, ws', f3', f4', rfl, rfl, o2, rfl, rfl⟩ := o
    simp only [f2] at hf
    cases ea : getO ρ a with
    | none => rw [ea] at hf; cases hf
    | some s =>
      cases eb : getO ρ b with
      | none => rw [ea, eb] at hf; cases hf
      | some s' =>
        rw [ea, eb] at hf
        obtain ⟨fx, rx, _⟩ := o1.get e ea
        obtain ⟨fy, ry, _⟩ := o2.get e eb
        exact h H s s' t x y fx fy hf rx ry Q p.less
  · simp only [f2] at hf; cases hf
theorem ok3 {K : PySem.W.Frag} {g : T → T → T → Option T} {r : List V → Hp → VK → Prop}
    (h : ∀ H s t u z x y w fx fy fw, g s t u = some z → Rep K H s x fx → Rep K H t y fy → Rep K H u w fw → ∀ Q, PureRes K H [] z Q → r [x, y, w] H Q) : OpOkL K (f3 g) r := by
  intro ρ fp σ H os vs fo t e o nd hf Q p
  rcases os with _ | ⟨a, _ | ⟨b, _ | ⟨c, _ | ⟨d, os⟩⟩⟩⟩
  · simp only [f3] at hf; cases hf
  · simp only [f3] at hf; cases hf
  · simp only [f3] at hf; cases hf
  · obtain ⟨x, ws, f1', f2', rfl, rfl, o1, y, ws', f3', f4', rfl, rfl, o2, w, ws'', f5', f6', rfl, rfl, o3, rfl, rfl⟩ := o
    simp only [f3] at hf
    cases ea : getO ρ a with
    | none => rw [ea] at hf; cases hf
    | some s =>
      cases eb : getO ρ b with
      | none => rw [ea, eb] at hf; cases hf
      | some s' =>
        cases ec : getO ρ c with
        | none => rw [ea, eb, ec] at hf; cases hf
        | some s'' =>
          rw [ea, eb, ec] at hf
          obtain ⟨fx, rx, _⟩ := o1.get e ea
          obtain ⟨fy, ry, _⟩ := o2.get e eb
          obtain ⟨fw, rw', _⟩ := o3.get e ec
          exact h H s s' s'' t x y w fx fy fw hf rx ry rw' Q p.less
  · simp only [f3] at hf; cases hf

/-! ### names -/
def visB (sc : Scope) (x : Str) : Bool := match sc.names.lookup x with
  | some .local => true
  | some .cell => true
  | some .free => true
  | _ => false
theorem vis_of {sc : Scope} {x : Str} (h : visB sc x = true) : Vis sc x := by
  unfold visB at h
  unfold Vis
  split at h
  · rename_i e; exact .inl e
  · rename_i e; exact .inr (.inl e)
  · rename_i e; exact .inr (.inr e)
  · cases h
def locB (sc : Scope) (x : Str) : Bool := match sc.names.lookup x with
  | some .local => true
  | some .cell => true
  | _ => false
theorem loc_of {sc : Scope} {x : Str} (h : locB sc x = true) : L2.Loc sc x := by
  unfold locB at h
  unfold L2.Loc
  split at h
  · rename_i e; exact .inl e
  · rename_i e; exact .inr e
  · cases h
def glB (sc : Scope) (x : Str) : Bool := decide (sc.names.lookup x = some .globalImplicit) && !(x == ("__debug__" : Str)) && !(decide (x = "__name__"))
structure GlOk (X : Cx) (x : Str) : Prop where
  gl : Gl X x
  db : (x == ("__debug__" : Str)) = false
  nn : x ≠ "__name__"
theorem gl_of {X : Cx} {sc : Scope} {x : Str} (e : X.env.scope = sc) (h : glB sc x = true) : GlOk X x := by
  unfold glB at h
  simp only [Bool.and_eq_true, decide_eq_true_eq, Bool.not_eq_true', decide_eq_false_iff_not] at h
  exact ⟨by show X.env.scope.names.lookup x = _; rw [e]; exact h.1.1, h.1.2, h.2⟩
def nmB (N : List Str) (sc : Scope) (i : Nat) (x : Str) : Bool := decide (N[i]? = some x) && visB sc x && !(x == ("__debug__" : Str)) && !(x == ("__classdict__" : Str))
theorem nm_of {X : Cx} {N : List Str} {sc : Scope} {i : Nat} {x : Str} {pos : Pos} (hN : X.N = N) (hs : X.env.scope = sc) (h : nmB N sc i x = true) : PE X (.Name x pos) (tVar i) := by
  unfold nmB at h
  simp only [Bool.and_eq_true, decide_eq_true_eq, Bool.not_eq_true'] at h
  exact pe_var (by rw [hN]; exact h.1.1.1) (by rw [hs]; exact vis_of h.1.1.2) h.1.2 h.2

def varSem (i : Nat) : Rho → R := fun ρ => match ρ[i]? with
  | some (some t) => if t.imm then .ok (.v t) ρ false else .ok (.p i []) ρ false
  | _ => .stuck
def eVar (i : Nat) : Ex where
  sem := varSem i
  m := fun N sc cm e => match e with
    | .Name x _ => nmB N sc i x
    | _ => false
  pre := fun _ _ => True
  snd := fun {X xi N sc lvl cm W x} g p h => by
    cases x <;> first | cases h | skip
    refine PE.to (nm_of g.hN g.hsc h) fun σ H Q hq => ?_
    obtain ⟨ρ, fp, e, hq⟩ := hq
    simp only [varSem] at hq
    split at hq
    · rename_i t ht
      obtain ⟨v, hv, r⟩ := e.rep i t ht
      refine ⟨v, hv, ?_⟩
      by_cases c : t.imm = true
      · rw [if_pos c] at hq
        have z := r.imm_nil c
        rw [z] at r
        exact hq v H fp [] e Step.refl (fun _ => Quiet.refl) r
      · rw [if_neg c] at hq
        exact hq v H fp [] e Step.refl (fun _ => Quiet.refl) ⟨rfl, v, t, t, fp i, hv, ht, rfl, rfl, rfl, r⟩
    · exact hq.elim
/-- a name whose list goes to another place: the slot is empty from then on -/
def moveSem (i : Nat) : Rho → R := fun ρ => match ρ[i]? with
  | some (some t) => .ok (.v t) (ρ.set i none) true
  | _ => .stuck
def eMove (i : Nat) : Ex where
  sem := moveSem i
  m := fun N sc cm e => match e with
    | .Name x _ => nmB N sc i x
    | _ => false
  pre := fun _ _ => True
  snd := fun {X xi N sc lvl cm W x} g p h => by
    cases x <;> first | cases h | skip
    refine PE.to (nm_of g.hN g.hsc h) fun σ H Q hq => ?_
    obtain ⟨ρ, fp, e, hq⟩ := hq
    simp only [moveSem] at hq
    split at hq
    · rename_i t ht
      obtain ⟨v, hv, r⟩ := e.rep i t ht
      have hi : i < ρ.length := (List.getElem?_eq_some_iff.mp ht).1
      refine ⟨v, hv, hq v H (fun j => if j = i then [] else fp j) (fp i) ⟨by rw [List.length_set]; exact e.len, fun j s hs => ?_, fun j hj => ?_, fun j => ?_, fun j k a ha hb => ?_⟩
        ⟨fun _ _ z _ => z, fun a z => .inl ?_, e.nd i, fun a ha z => ?_⟩ (fun z => by cases z) r⟩
      · by_cases c : j = i
        · subst c; rw [List.getElem?_set_self hi] at hs; cases hs
        · rw [List.getElem?_set_ne (Ne.symm c)] at hs
          simp only [if_neg c]
          exact e.rep j s hs
      · by_cases c : j = i
        · simp only [if_pos c]
        · simp only [if_neg c]
          exact e.emp j fun s hs => hj s (by rw [List.getElem?_set_ne (Ne.symm c)]; exact hs)
      · by_cases c : j = i
        · simp only [if_pos c]; exact .nil
        · simp only [if_neg c]; exact e.nd j
      · by_cases c : j = i
        · simp only [if_pos c] at ha; cases ha
        · by_cases d : k = i
          · simp only [if_pos d] at hb; cases hb
          · simp only [if_neg c] at ha
            simp only [if_neg d] at hb
            exact e.dj j k a ha hb
      · rcases z with ⟨j, z⟩ | z
        · by_cases c : j = i
          · simp only [if_pos c] at z; cases z
          · simp only [if_neg c] at z; exact ⟨j, z⟩
        · exact ⟨i, z⟩
      · obtain ⟨j, z⟩ := z
        by_cases c : j = i
        · simp only [if_pos c] at z; cases z
        · simp only [if_neg c] at z
          exact c (e.dj j i a z ha)
    · exact hq.elim

/-! ### constants -/
def cSem (t : T) : Rho → R := fun ρ => .ok (.v t) ρ false
theorem c_to {K : PySem.W.Frag} {xi : XI} {W : WX} {t : T} {v : V} (r : ∀ H, Rep K H t v []) {σ : L2.St} {H : Hp} {Q : VK} (h : tE K xi W (cSem t) σ H Q) : tC v σ H Q := by
  obtain ⟨ρ, fp, e, h⟩ := h
  exact h v H fp [] e Step.refl (fun _ => Quiet.refl) (r H)
def eInt (i : Int) : Ex where
  sem := cSem (.int i)
  m := fun N sc cm e => match e with
    | .Constant (.int j) _ _ => decide (j = i)
    | _ => false
  pre := fun _ _ => True
  snd := fun {X xi N sc lvl cm W x} g p h => by
    cases x <;> first | cases h | skip
    rename_i v _ _
    cases v <;> first | cases h | skip
    rw [of_decide_eq_true h]
    exact PE.to pe_int fun σ H Q hq => c_to (t := .int i) (v := .int i) (fun _ => ⟨rfl, rfl⟩) hq
def eStr (s : Str) : Ex where
  sem := cSem (.str s)
  m := fun N sc cm e => match e with
    | .Constant (.str j) _ _ => decide (j = s)
    | _ => false
  pre := fun _ _ => True
  snd := fun {X xi N sc lvl cm W x} g p h => by
    cases x <;> first | cases h | skip
    rename_i v _ _
    cases v <;> first | cases h | skip
    rw [of_decide_eq_true h]
    exact PE.to pe_str fun σ H Q hq => c_to (t := .str s) (v := .str s) (fun _ => ⟨rfl, rfl⟩) hq
def eBl (b : Bool) : Ex where
  sem := cSem (.bl b)
  m := fun N sc cm e => match e with
    | .Constant (.bool j) _ _ => decide (j = b)
    | _ => false
  pre := fun _ _ => True
  snd := fun {X xi N sc lvl cm W x} g p h => by
    cases x <;> first | cases h | skip
    rename_i v _ _
    cases v <;> first | cases h | skip
    rw [of_decide_eq_true h]
    exact PE.to pe_bl fun σ H Q hq => c_to (t := .bl b) (v := .bl b) (fun _ => ⟨rfl, rfl⟩) hq
def eNon : Ex where
  sem := cSem .non
  m := fun N sc cm e => match e with
    | .Constant .none _ _ => true
    | _ => false
  pre := fun _ _ => True
  snd := fun {X xi N sc lvl cm W x} g p h => by
    cases x <;> first | cases h | skip
    rename_i v _ _
    cases v <;> first | cases h | skip
    exact PE.to pe_non fun σ H Q hq => c_to (t := .non) (v := .non) (fun _ => ⟨rfl, rfl⟩) hq
/-- a module's constant: an int or a text -/
def eGlob (x : Str) (t : T) : Ex where
  sem := cSem t
  m := fun N sc cm e => match e with
    | .Name y _ => decide (y = x) && glB sc y
    | _ => false
  pre := fun Γ _ => ∃ v u, Γ.mg x = some u ∧ RelV v u ∧ ∀ H, Rep Γ.K H t v []
  snd := fun {X xi N sc lvl cm W e} g p h => by
    cases e <;> first | cases h | skip
    simp only [Bool.and_eq_true, decide_eq_true_eq] at h
    obtain ⟨v, u, hm, r, rp⟩ := p
    have G := gl_of g.hsc h.2
    rw [h.1] at G ⊢
    exact PE.to (pe_glob G.gl hm r G.db) fun σ H Q hq => c_to rp hq

/-! ### operators -/
theorem addS_len (x y : Str) : (x ++ y).length = x.length + y.length := by
  show (x.cps ++ y.cps).size = _
  rw [Array.size_append]; rfl
def addT : T → T → Option T
  | .int i, .int j => some (.int (i + j))
  | .str s, .str t => if s.length + t.length ≤ sizeLine then some (.str (s ++ t)) else none
  | .tup xs, .tup ys => if T.imms xs = true ∧ T.imms ys = true ∧ xs.length + ys.length ≤ sizeLine then some (.tup (xs ++ ys)) else none
  | .lst xs, .lst ys => if T.imms xs = true ∧ T.imms ys = true ∧ xs.length + ys.length ≤ sizeLine then some (.lst (xs ++ ys)) else none
  | _, _ => none
def subT : T → T → Option T
  | .int i, .int j => some (.int (i - j))
  | _, _ => none
def mulT : T → T → Option T
  | .int i, .int j => if (-(2 ^ 64) < i ∧ i < 2 ^ 64) ∨ (-(2 ^ 64) < j ∧ j < 2 ^ 64) then some (.int (i * j)) else none
  | .str x, .int n => if 1 ≤ n ∧ n ≤ 16777216 ∧ x.length * n.toNat ≤ 16777216 then some (.str ⟨(List.replicate n.toNat x.cps.toList).flatten.toArray⟩) else none
  | _, _ => none
def modT : T → T → Option T
  | .int i, .int j => if 0 < j then some (.int (i % j)) else none
  | _, _ => none
def divT : T → T → Option T
  | .int i, .int j => if 0 < j ∧ j < 1073741824 then some (.int (i / j)) else none
  | _, _ => none
def powT : T → T → Option T
  | .int i, .int j => if 0 ≤ j ∧ j ≤ 1000000 ∧ i.natAbs < 2 ^ 64 then some (.int (i ^ j.toNat)) else none
  | _, _ => none
def shlT : T → T → Option T
  | .int i, .int j => if 0 ≤ j ∧ j ≤ 1000000 ∧ i.natAbs < 2 ^ 64 then some (.int (i * 2 ^ j.toNat)) else none
  | _, _ => none
def shrT : T → T → Option T
  | .int i, .int j => if 0 ≤ j then some (.int (i / 2 ^ j.toNat)) else none
  | _, _ => none
def andT : T → T → Option T
  | .int i, .int j => some (.int (Builtin.bitAnd i j))
  | _, _ => none
def orT : T → T → Option T
  | .int i, .int j => some (.int (Builtin.bitOr i j))
  | _, _ => none
def xorT : T → T → Option T
  | .int i, .int j => some (.int (Builtin.bitXor i j))
  | _, _ => none
def binT : Operator → T → T → Option T
  | .Add => addT | .Sub => subT | .Mult => mulT | .Mod => modT | .FloorDiv => divT | .Pow => powT | .LShift => shlT | .RShift => shrT | .BitAnd => andT | .BitOr => orT | .BitXor => xorT
  | _ => fun _ _ => none

/-- the rule of a two-place operation, over lists of two -/
def rr (r : R2) : List V → Hp → VK → Prop
  | [x, y], H, Q => r x y H Q
  | _, _, _ => False
theorem ok_ints {K : PySem.W.Frag} {g : T → T → Option T} {C : Int → Int → Prop} {k : Int → Int → Int} (h : ∀ s t u, g s t = some u → ∃ i j, s = .int i ∧ t = .int j ∧ C i j ∧ u = .int (k i j)) : OpOkL K (f2 g) (rr (rI C fun i j => .int (k i j))) := by
  refine ok2 fun H s t u x y fx fy hg rx ry Q p => ?_
  obtain ⟨i, j, rfl, rfl, c, rfl⟩ := h s t u hg
  obtain ⟨rfl, _⟩ := rx
  obtain ⟨rfl, _⟩ := ry
  exact ⟨i, j, rfl, rfl, c, p.v ⟨rfl, rfl⟩⟩
theorem ok_ints0 {K : PySem.W.Frag} {g : T → T → Option T} {k : Int → Int → Int} (h : ∀ s t u, g s t = some u → ∃ i j, s = .int i ∧ t = .int j ∧ u = .int (k i j)) : OpOkL K (f2 g) (rr (rI0 fun i j => .int (k i j))) := by
  refine ok2 fun H s t u x y fx fy hg rx ry Q p => ?_
  obtain ⟨i, j, rfl, rfl, rfl⟩ := h s t u hg
  obtain ⟨rfl, _⟩ := rx
  obtain ⟨rfl, _⟩ := ry
  exact ⟨i, j, rfl, rfl, p.v ⟨rfl, rfl⟩⟩
def rCatL (K : PySem.W.Frag) : R2 := rCat
theorem ok_add {K : PySem.W.Frag} : OpOkL K (f2 addT) (rr fun x y H Q => (rI0 (fun i j => .int (i + j))) x y H Q ∨ ((∃ i j, x = .str i ∧ y = .str j ∧ i.length + j.length ≤ sizeLine ∧ Q (.str (i ++ j)) H) ∨ (rCatA K x y H Q ∨ rCat x y H Q))) := by
  refine ok2 fun H s t u x y fx fy hg rx ry Q p => ?_
  show _ ∨ _
  unfold addT at hg
  split at hg
  · cases hg
    obtain ⟨rfl, _⟩ := rx
    obtain ⟨rfl, _⟩ := ry
    exact .inl ⟨_, _, rfl, rfl, p.v ⟨rfl, rfl⟩⟩
  · split at hg
    · rename_i c
      cases hg
      obtain ⟨rfl, _⟩ := rx
      obtain ⟨rfl, _⟩ := ry
      exact .inr (.inl ⟨_, _, rfl, rfl, c, p.v ⟨rfl, rfl⟩⟩)
    · cases hg
  · split at hg
    · rename_i c
      cases hg
      obtain ⟨a, vs, rfl, sa, ra⟩ := rx
      obtain ⟨b, ws, rfl, sb, rb⟩ := ry
      have ea := ra.imm_nil c.1
      have eb := rb.imm_nil c.2.1
      subst ea eb
      have la := ra.len
      have lb := rb.len
      refine .inr (.inr (.inl ⟨a, b, vs, ws, rfl, rfl, sa, sb, by omega, fun z => ?_, fun z w => ?_, fun _ _ => p.tup (g := []) (by simpa using Reps.append ra rb) (fun _ z => by cases z) .nil⟩))
      · subst z
        rename_i xs ys
        have ex : xs = [] := List.eq_nil_of_length_eq_zero (by simpa using la.symm)
        subst ex
        exact p.v ⟨b, ws, rfl, sb, rb⟩
      · subst w
        rename_i xs ys
        have ey : ys = [] := List.eq_nil_of_length_eq_zero (by simpa using lb.symm)
        subst ey
        exact p.v ⟨a, vs, rfl, sa, by simpa using ra⟩
    · cases hg
  · split at hg
    · rename_i c
      cases hg
      obtain ⟨a, vs, g1, rfl, _, sa, ra⟩ := rx
      obtain ⟨b, ws, g2, rfl, _, sb, rb⟩ := ry
      have ea := ra.imm_nil c.1
      have eb := rb.imm_nil c.2.1
      subst ea eb
      have la := ra.len
      have lb := rb.len
      exact .inr (.inr (.inr ⟨a, b, vs, ws, rfl, rfl, sa, sb, by omega, p.lst (g := []) (by simpa using Reps.append ra rb) (fun _ z => by cases z) .nil⟩))
    · cases hg
  · cases hg
theorem reps_flat (c : Array Nat) : ∀ (k : Nat) (acc : Array Nat), ((List.replicate k c).foldl (· ++ ·) acc) = acc ++ ((List.replicate k c.toList).flatten).toArray
  | 0, acc => by simp
  | k + 1, acc => by
    rw [List.replicate_succ, List.foldl_cons, reps_flat c k, List.replicate_succ, List.flatten_cons, Array.append_assoc]
    congr 1
    refine Array.ext' ?_
    simp
theorem mul_flat {x : Str} {n : Int} (h : 1 ≤ n) : Txt.mul x n = ⟨(List.replicate n.toNat x.cps.toList).flatten.toArray⟩ := by
  unfold Txt.mul
  rw [if_neg (by omega)]
  split
  · rename_i hc
    rw [Bool.or_eq_true, beq_iff_eq, beq_iff_eq] at hc
    rcases hc with h | h
    · subst h
      show x = ⟨((List.replicate 1 x.cps.toList).flatten).toArray⟩
      cases x; simp
    · cases x with
      | mk c =>
        have e : c = #[] := Array.eq_empty_of_size_eq_zero h
        subst e
        have : ∀ k : Nat, (List.replicate k ([] : List Nat)).flatten = [] := fun k => by induction k with | zero => rfl | succ k ih => rw [List.replicate_succ, List.flatten_cons, ih]; rfl
        simp [this]
  · rw [reps_flat]; simp
def rMulS : R2 := fun x y H Q => ∃ a n, x = .str a ∧ y = .int n ∧ 1 ≤ n ∧ n ≤ 16777216 ∧ a.length * n.toNat ≤ 16777216 ∧ Q (.str ⟨(List.replicate n.toNat a.cps.toList).flatten.toArray⟩) H
theorem op_mulS {X : Cx} : OpR X (binaryOp .Mult) rMulS := by
  intro pins s σ H x y v u Q I rx ry h
  obtain ⟨a, n, rfl, rfl, h1, h2, h3, q⟩ := h
  obtain ⟨t, rfl⟩ := rx
  obtain ⟨t2, rfl⟩ := ry
  refine SB.mul (PyProof.Rows.mulOk_of a.length n.toNat (Nat.le_refl _) (by omega) (by omega) (by omega) h3) fun t' k => ?_
  rw [mul_flat h1]
  exact ⟨.str _, H, I.tok k, ⟨_, rfl⟩, q⟩
def opServed : Operator → Bool
  | .MatMult => false
  | .Div => false
  | _ => true
theorem op_all {X : Cx} (op : Operator) (h : opServed op = true) : ∃ r, OpR X (binaryOp op) r ∧ OpOkL X.K (f2 (binT op)) (rr r) := by
  cases op with
  | Add => exact ⟨_, op_add.or (op_add_str.or (op_catA.or op_cat)), ok_add⟩
  | Sub => exact ⟨_, op_sub, ok_ints0 fun s t u hg => by simp only [binT, subT] at hg; split at hg <;> cases hg; exact ⟨_, _, rfl, rfl, rfl⟩⟩
  | Mult =>
    refine ⟨_, op_mul.or op_mulS, ok2 fun H s t u x y fx fy hg rx ry Q p => ?_⟩
    simp only [binT, mulT] at hg
    split at hg
    · split at hg
      · rename_i c
        cases hg
        obtain ⟨rfl, _⟩ := rx
        obtain ⟨rfl, _⟩ := ry
        exact .inl ⟨_, _, rfl, rfl, c, p.v ⟨rfl, rfl⟩⟩
      · cases hg
    · split at hg
      · rename_i c
        cases hg
        obtain ⟨rfl, _⟩ := rx
        obtain ⟨rfl, _⟩ := ry
        exact .inr ⟨_, _, rfl, rfl, c.1, c.2.1, c.2.2, p.v ⟨rfl, rfl⟩⟩
      · cases hg
    · cases hg
  | Mod =>
    refine ⟨_, op_mod, ok_ints fun s t u hg => ?_⟩
    simp only [binT, modT] at hg
    split at hg
    · split at hg
      · rename_i c; cases hg; exact ⟨_, _, rfl, rfl, c, rfl⟩
      · cases hg
    · cases hg
  | FloorDiv =>
    refine ⟨_, op_fdiv, ok_ints fun s t u hg => ?_⟩
    simp only [binT, divT] at hg
    split at hg
    · split at hg
      · rename_i c; cases hg; exact ⟨_, _, rfl, rfl, c, rfl⟩
      · cases hg
    · cases hg
  | Pow =>
    refine ⟨_, op_pow, ok_ints fun s t u hg => ?_⟩
    simp only [binT, powT] at hg
    split at hg
    · split at hg
      · rename_i c; cases hg; exact ⟨_, _, rfl, rfl, c, rfl⟩
      · cases hg
    · cases hg
  | LShift =>
    refine ⟨_, op_shl, ok_ints fun s t u hg => ?_⟩
    simp only [binT, shlT] at hg
    split at hg
    · split at hg
      · rename_i c; cases hg; exact ⟨_, _, rfl, rfl, c, rfl⟩
      · cases hg
    · cases hg
  | RShift =>
    refine ⟨_, op_shr, ok_ints fun s t u hg => ?_⟩
    simp only [binT, shrT] at hg
    split at hg
    · split at hg
      · rename_i c; cases hg; exact ⟨_, _, rfl, rfl, c, rfl⟩
      · cases hg
    · cases hg
  | BitAnd => exact ⟨_, op_and, ok_ints0 fun s t u hg => by simp only [binT, andT] at hg; split at hg <;> cases hg; exact ⟨_, _, rfl, rfl, rfl⟩⟩
  | BitOr => exact ⟨_, op_or, ok_ints0 fun s t u hg => by simp only [binT, orT] at hg; split at hg <;> cases hg; exact ⟨_, _, rfl, rfl, rfl⟩⟩
  | BitXor => exact ⟨_, op_xor, ok_ints0 fun s t u hg => by simp only [binT, xorT] at hg; split at hg <;> cases hg; exact ⟨_, _, rfl, rfl, rfl⟩⟩
  | MatMult => cases h
  | Div => cases h
def eBin (op : Operator) (a b : Ex) : Ex where
  sem := opSem [a.sem, b.sem] (f2 (binT op))
  m := fun N sc cm e => match e with
    | .BinOp x o y _ => decide (o = op) && (opServed op && (a.m N sc cm x && b.m N sc cm y))
    | _ => false
  pre := fun Γ k => a.pre Γ k ∧ b.pre Γ k
  snd := fun {X xi N sc lvl cm W x} g p h => by
    cases x <;> first | cases h | skip
    simp only [Bool.and_eq_true, decide_eq_true_eq] at h
    obtain ⟨rfl, h1, h2, h3⟩ := h
    obtain ⟨r, hr, ok⟩ := op_all (X := X) _ h1
    exact PE.to (pe_op hr (a.snd g p.1 h2) (b.snd g p.2 h3)) fun σ H Q hq => op_to ok hq

/-- -a, ~a -/
def negT : T → Option T
  | .int i => some (.int (-i))
  | _ => none
def ru (r : V → Hp → VK → Prop) : List V → Hp → VK → Prop
  | [x], H, Q => r x H Q
  | _, _, _ => False
def eNeg (a : Ex) : Ex where
  sem := opSem [a.sem] (f1 negT)
  m := fun N sc cm e => match e with
    | .UnaryOp .USub x _ => a.m N sc cm x
    | _ => false
  pre := fun Γ k => a.pre Γ k
  snd := fun {X xi N sc lvl cm W x} g p h => by
    cases x <;> first | cases h | skip
    rename_i op x _
    cases op <;> first | cases h | skip
    refine PE.to (pe_un un_neg (a.snd g p h)) fun σ H Q hq => op_to (r := ru (rU fun i => .int (-i))) (ok1 fun H s u x fx hg rx Q p => ?_) hq
    unfold negT at hg
    split at hg <;> cases hg
    obtain ⟨rfl, _⟩ := rx
    exact ⟨_, rfl, p.v ⟨rfl, rfl⟩⟩
end Pv
set_option Elab.async false
set_option linter.all false
set_option maxRecDepth 100000
set_option maxHeartbeats 2000000
/-! Pv part D: comparisons, tests, items, slices, displays. -/
namespace Pv
open PySem L2

mutual
def T.toD : T → PyData
  | .non => .none
  | .bl b => .bool b
  | .int i => .int i
  | .str s => .str s
  | .tup ts => .tuple (T.toDs ts)
  | .lst ts => .list (T.toDs ts)
  | .fro ns => .list (ns.map .int)
def T.toDs : List T → List PyData
  | [] => []
  | t :: ts => t.toD :: T.toDs ts
end
theorem toDs_map : ∀ ts : List T, T.toDs ts = ts.map T.toD
  | [] => rfl
  | t :: ts => by simp only [T.toDs, List.map_cons, toDs_map ts]
theorem dp_ints {K : PySem.W.Frag} {H : Hp} : ∀ ns : List Int, DpAll K H (ns.map .int) (ns.map .int)
  | [] => .nil
  | n :: ns => .cons (.int n) (dp_ints ns)
mutual
theorem rep_dp {K : PySem.W.Frag} {H : Hp} : ∀ {t : T} {v : V} {f : List Addr}, Rep K H t v f → Dp K H v t.toD
  | .non, _, _, h => by rw [h.1]; exact .non
  | .bl b, _, _, h => by rw [h.1]; exact .bl b
  | .int i, _, _, h => by rw [h.1]; exact .int i
  | .str s, _, _, h => by rw [h.1]; exact .str s
  | .tup ts, _, _, h => by
    obtain ⟨a, vs, rfl, s, r⟩ := h
    exact .tup s (reps_dp r)
  | .lst ts, _, _, h => by
    obtain ⟨a, vs, g, rfl, _, s, r⟩ := h
    exact .lst (SqL.of s) (reps_dp r)
  | .fro ns, _, _, h => by
    obtain ⟨_, a, rfl, h⟩ := h
    rcases h with ⟨o, h⟩ | h
    · exact .lst (.inl (.inr ⟨o, h⟩)) (dp_ints ns)
    · exact .lst (h H) (dp_ints ns)
theorem reps_dp {K : PySem.W.Frag} {H : Hp} : ∀ {ts : List T} {vs : List V} {f : List Addr}, Reps K H ts vs f → DpAll K H vs (T.toDs ts)
  | [], _, _, h => by rw [h.1]; exact .nil
  | t :: ts, _, _, h => by
    obtain ⟨v, ws, f1, f2, rfl, rfl, h1, h2⟩ := h
    exact .cons (rep_dp h1) (reps_dp h2)
end

/-- == of trees, where Python can say it -/
def eqT (s t : T) : Option Bool := if SeqAt.shaped s.toD = true ∧ SeqAt.shaped t.toD = true then some (PyData.eqv s.toD t.toD) else none
def inT (s t : T) : Option Bool := match s, t with
  | .str x, .str z => match x.cps.toList with
    | [c] => some (decide (c ∈ z.cps.toList))
    | _ => none
  | s, .lst ts => if SeqAt.shaped s.toD = true ∧ SeqAt.shaped (T.lst ts).toD = true then some ((T.toDs ts).any fun z => PyData.eqv z s.toD) else none
  | _, _ => none
def isNon : T → Bool
  | .non => true
  | _ => false
def ltT : T → T → Option Bool
  | .int i, .int j => some (decide (i < j))
  | .str x, .str y => some (decide (x.cps.toList < y.cps.toList))
  | _, _ => none
def leT : T → T → Option Bool
  | .int i, .int j => some (decide (i ≤ j))
  | .str x, .str y => some (!decide (y.cps.toList < x.cps.toList))
  | _, _ => none
def cmpT : CmpOp → T → T → Option Bool
  | .Eq, s, t => eqT s t
  | .NotEq, s, t => (eqT s t).map (!·)
  | .Lt, s, t => ltT s t
  | .LtE, s, t => leT s t
  | .Gt, .int i, .int j => some (decide (j < i))
  | .GtE, .int i, .int j => some (decide (j ≤ i))
  | .Is, s, .non => some (isNon s)
  | .IsNot, s, .non => some (!isNon s)
  | .In, s, t => inT s t
  | .NotIn, s, t => (inT s t).map (!·)
  | _, _, _ => none
def cmpV (op : CmpOp) (s t : T) : Option T := (cmpT op s t).map .bl

theorem op_leS {X : Cx} : OpR X (compareOp .LtE) (fun x y H Q => ∃ i j, x = .str i ∧ y = .str j ∧ Q (.bl (!decide (j.cps.toList < i.cps.toList))) H) := by
  intro pins s σ H x y v u Q I rx ry h
  obtain ⟨i, j, rfl, rfl, q⟩ := h
  obtain ⟨t, rfl⟩ := rx
  obtain ⟨t', rfl⟩ := ry
  exact PySem.P.le_str (fin_bl I q rfl)
theorem non_iff {K : PySem.W.Frag} {H : Hp} {t : T} {v : V} {f : List Addr} (h : Rep K H t v f) : decide (v = .non) = isNon t := by
  cases t with
  | non => rw [h.1]; rfl
  | bl b => rw [h.1]; rfl
  | int b => rw [h.1]; rfl
  | str b => rw [h.1]; rfl
  | tup ts => obtain ⟨a, vs, rfl, _⟩ := h; rfl
  | lst ts => obtain ⟨a, vs, g, rfl, _⟩ := h; rfl
  | fro ts => obtain ⟨_, a, rfl, _⟩ := h; rfl
theorem str_one {x : Str} {c : Nat} (h : x.cps.toList = [c]) : x = ⟨#[c]⟩ := by
  cases x with
  | mk a => simp only at h; congr; exact Array.ext' (by simpa using h)

theorem op_cmp {X : Cx} (hu : X.A.units + 100 < cLine) (op : CmpOp) : ∃ r, OpR X (compareOp op) r ∧ OpOkL X.K (f2 (cmpV op)) (rr r) := by
  have u1 : X.A.units + 64 < cLine := by omega
  have u2 : X.A.units + 65 < cLine := by omega
  cases op with
  | Eq =>
    refine ⟨_, op_eqD u1, ok2 fun H s t u x y fx fy hg rx ry Q p => ?_⟩
    simp only [cmpV, cmpT, eqT] at hg
    split at hg
    · rename_i c
      cases hg
      exact ⟨_, _, rep_dp rx, rep_dp ry, c.1, c.2, p.v ⟨rfl, rfl⟩⟩
    · cases hg
  | NotEq =>
    refine ⟨_, op_neD u1, ok2 fun H s t u x y fx fy hg rx ry Q p => ?_⟩
    simp only [cmpV, cmpT, eqT] at hg
    split at hg
    · rename_i c
      cases hg
      exact ⟨_, _, rep_dp rx, rep_dp ry, c.1, c.2, p.v ⟨rfl, rfl⟩⟩
    · cases hg
  | Lt =>
    refine ⟨_, op_lt.or op_lt_str, ok2 fun H s t u x y fx fy hg rx ry Q p => ?_⟩
    simp only [cmpV, cmpT, ltT] at hg
    split at hg
    · cases hg
      obtain ⟨rfl, _⟩ := rx
      obtain ⟨rfl, _⟩ := ry
      exact .inl ⟨_, _, rfl, rfl, p.v ⟨rfl, rfl⟩⟩
    · cases hg
      obtain ⟨rfl, _⟩ := rx
      obtain ⟨rfl, _⟩ := ry
      exact .inr ⟨_, _, rfl, rfl, p.v ⟨rfl, rfl⟩⟩
    · cases hg
  | LtE =>
    refine ⟨_, op_le.or op_leS, ok2 fun H s t u x y fx fy hg rx ry Q p => ?_⟩
    simp only [cmpV, cmpT, leT] at hg
    split at hg
    · cases hg
      obtain ⟨rfl, _⟩ := rx
      obtain ⟨rfl, _⟩ := ry
      exact .inl ⟨_, _, rfl, rfl, p.v ⟨rfl, rfl⟩⟩
    · cases hg
      obtain ⟨rfl, _⟩ := rx
      obtain ⟨rfl, _⟩ := ry
      exact .inr ⟨_, _, rfl, rfl, p.v ⟨rfl, rfl⟩⟩
    · cases hg
  | Gt =>
    refine ⟨_, op_gt, ok2 fun H s t u x y fx fy hg rx ry Q p => ?_⟩
    cases s <;> cases t <;> first | (simp [cmpV, cmpT] at hg; done) | skip
    simp only [cmpV, cmpT, Option.map_some, Option.some.injEq] at hg
    subst hg
    obtain ⟨rfl, _⟩ := rx
    obtain ⟨rfl, _⟩ := ry
    exact ⟨_, _, rfl, rfl, p.v ⟨rfl, rfl⟩⟩
  | GtE =>
    refine ⟨_, op_ge, ok2 fun H s t u x y fx fy hg rx ry Q p => ?_⟩
    cases s <;> cases t <;> first | (simp [cmpV, cmpT] at hg; done) | skip
    simp only [cmpV, cmpT, Option.map_some, Option.some.injEq] at hg
    subst hg
    obtain ⟨rfl, _⟩ := rx
    obtain ⟨rfl, _⟩ := ry
    exact ⟨_, _, rfl, rfl, p.v ⟨rfl, rfl⟩⟩
  | Is =>
    refine ⟨_, op_isN, ok2 fun H s t u x y fx fy hg rx ry Q p => ?_⟩
    cases t <;> first | (simp [cmpV, cmpT] at hg; done) | skip
    simp only [cmpV, cmpT, Option.map_some, Option.some.injEq] at hg
    subst hg
    exact ⟨ry.1, p.v ⟨by rw [non_iff rx], rfl⟩⟩
  | IsNot =>
    refine ⟨_, op_notN, ok2 fun H s t u x y fx fy hg rx ry Q p => ?_⟩
    cases t <;> first | (simp [cmpV, cmpT] at hg; done) | skip
    simp only [cmpV, cmpT, Option.map_some, Option.some.injEq] at hg
    subst hg
    exact ⟨ry.1, p.v ⟨by rw [non_iff rx], rfl⟩⟩
  | In =>
    refine ⟨_, (op_inD u2).or op_in_sign, ok2 fun H s t u x y fx fy hg rx ry Q p => ?_⟩
    simp only [cmpV, cmpT, inT] at hg
    split at hg
    · split at hg
      · rename_i e
        cases hg
        obtain ⟨rfl, _⟩ := rx
        obtain ⟨rfl, _⟩ := ry
        exact .inr ⟨_, _, by rw [str_one e], rfl, p.v ⟨rfl, rfl⟩⟩
      · cases hg
    · split at hg
      · rename_i c
        cases hg
        exact .inl ⟨_, _, rep_dp rx, rep_dp ry, c.1, c.2, p.v ⟨rfl, rfl⟩⟩
      · cases hg
    · cases hg
  | NotIn =>
    refine ⟨_, (op_notInD u2).or op_notIn_sign, ok2 fun H s t u x y fx fy hg rx ry Q p => ?_⟩
    simp only [cmpV, cmpT, inT] at hg
    split at hg
    · split at hg
      · rename_i e
        cases hg
        obtain ⟨rfl, _⟩ := rx
        obtain ⟨rfl, _⟩ := ry
        exact .inr ⟨_, _, by rw [str_one e], rfl, p.v ⟨rfl, rfl⟩⟩
      · cases hg
    · split at hg
      · rename_i c
        cases hg
        exact .inl ⟨_, _, rep_dp rx, rep_dp ry, c.1, c.2, p.v ⟨rfl, rfl⟩⟩
      · cases hg
    · cases hg

def notSet : Expr → Bool
  | .Set _ _ _ => false
  | _ => true
theorem bim_of {op : CmpOp} {x : Expr} (h : notSet x = true) : behindInMarks op x = false := by
  cases x <;> first | rfl | cases h
def cmpM (a b : Ex) (op : CmpOp) (N : List Str) (sc : Scope) (cm : Bool) : Expr → Bool
  | .Compare x [o] [y] _ => decide (o = op) && (notSet y && (a.m N sc cm x && b.m N sc cm y))
  | _ => false
def eCmp (op : CmpOp) (a b : Ex) : Ex where
  sem := opSem [a.sem, b.sem] (f2 (cmpV op))
  m := cmpM a b op
  pre := fun Γ k => a.pre Γ k ∧ b.pre Γ k
  snd := fun {X xi N sc lvl cm W x} g p h => by
    unfold cmpM at h
    split at h
    · simp only [Bool.and_eq_true, decide_eq_true_eq] at h
      obtain ⟨rfl, h1, h2, h3⟩ := h
      obtain ⟨r, hr, ok⟩ := op_cmp (X := X) g.un _
      exact PE.to (pe_cmpR hr (a.snd g p.1 h2) (b.snd g p.2 h3) (bim_of h1)) fun σ H Q hq => op_to ok hq
    · cases h
/-- the truth of what is True or False -/
def boolSem (s : Rho → R) : Rho → RB := fun ρ => match s ρ with
  | .ok (.v (.bl b)) ρ' τ => .ok b ρ' τ
  | .ok _ _ _ => .stuck
  | .ex c t ρ' => .ex c t ρ'
  | .stuck => .stuck
theorem bool_to {K : PySem.W.Frag} {xi : XI} {W : WX} {s : Rho → R} {σ : L2.St} {H : Hp} {Q : Bool → Hp → Prop} (h : tT K xi W (boolSem s) σ H Q) : tE K xi W s σ H fun x H' => ∃ k, x = .bl k ∧ Q k H' := by
  obtain ⟨ρ, fp, e, h⟩ := h
  refine ⟨ρ, fp, e, ?_⟩
  simp only [boolSem] at h
  cases hs : s ρ with
  | stuck => rw [hs] at h; exact h.elim
  | ex c t ρ' => rw [hs] at h; exact h
  | ok o ρ' τ =>
    rw [hs] at h
    cases o with
    | p i path => exact h.elim
    | v t =>
      cases t <;> first | exact (show False from h).elim | skip
      intro v H' fp' fo e' s' q' r'
      exact ⟨_, r'.1, h H' fp' e' s'.drop q'⟩
def bCmp (op : CmpOp) (a b : Ex) : Bx where
  sem := boolSem (opSem [a.sem, b.sem] (f2 (cmpV op)))
  m := cmpM a b op
  pre := fun Γ k => a.pre Γ k ∧ b.pre Γ k
  snd := fun {X xi N sc lvl cm W x} g p h => by
    unfold cmpM at h
    split at h
    · simp only [Bool.and_eq_true, decide_eq_true_eq] at h
      obtain ⟨rfl, h1, h2, h3⟩ := h
      obtain ⟨r, hr, ok⟩ := op_cmp (X := X) g.un _
      exact PT.to (pt_cmpR hr (a.snd g p.1 h2) (b.snd g p.2 h3) (bim_of h1)) fun σ H Q hq => op_to ok (bool_to hq)
    · cases h
/-- a < b < c, three plain things -/
def chainSem (op op' : CmpOp) (sa sb sc : Rho → R) : Rho → RB := fun ρ => match sa ρ with
  | .ok (.v s) ρ1 false => match sb ρ1 with
    | .ok (.v t) ρ2 false => match s.imm && t.imm, cmpT op s t with
      | true, some true => match sc ρ2 with
        | .ok (.v u) ρ3 false => match u.imm, cmpT op' t u with
          | true, some b => .ok b ρ3 false
          | _, _ => .stuck
        | _ => .stuck
      | true, some false => .ok false ρ2 false
      | _, _ => .stuck
    | _ => .stuck
  | _ => .stuck
theorem cmp_use {K : PySem.W.Frag} {op : CmpOp} {r : R2} {H : Hp} {s t : T} {x y : V} {k : Bool} {Q : V → Hp → Prop} {ρ : Rho} {fp : Fp} {σ : L2.St} (ok : OpOkL K (f2 (cmpV op)) (rr r)) (e : Env K ρ fp σ H) (rx : Rep K H s x []) (ry : Rep K H t y [])
    (ec : cmpT op s t = some k) (qq : ∀ H', (∀ a o, H a = some o → H' a = some o) → Q (.bl k) H') : r x y H Q := by
  refine ok ρ fp σ H [.v s, .v t] [x, y] [] (.bl k) e ⟨x, [y], [], [], rfl, rfl, rx, y, [], [], [], rfl, rfl, ry, rfl, rfl⟩ .nil (by simp [f2, getO, cmpV, ec]) Q fun v H' fo' kk rv _ _ => ?_
  rw [rv.1]
  exact qq H' kk
def bChain (op op' : CmpOp) (a b c : Ex) : Bx where
  sem := chainSem op op' a.sem b.sem c.sem
  m := fun N sc cm e => match e with
    | .Compare x [o, o'] [y, z] _ => decide (o = op) && (decide (o' = op') && (notSet z && (a.m N sc cm x && (b.m N sc cm y && c.m N sc cm z))))
    | _ => false
  pre := fun Γ k => a.pre Γ k ∧ b.pre Γ k ∧ c.pre Γ k
  snd := fun {X xi N sc lvl cm W x} g p h => by
    split at h
    · simp only [Bool.and_eq_true, decide_eq_true_eq] at h
      obtain ⟨rfl, rfl, h1, h2, h3, h4⟩ := h
      rename_i x o o' y z _
      obtain ⟨r, hr, ok⟩ := op_cmp (X := X) g.un o
      obtain ⟨r', hr', ok'⟩ := op_cmp (X := X) g.un o'
      refine PT.to (pt_chain hr hr' (a.snd g p.1 h2) (b.snd g p.2.1 h3) (c.snd g p.2.2 h4) (bim_of h1)) fun σ H Q hq => ?_
      obtain ⟨ρ, fp, e, hq⟩ := hq
      simp only [chainSem] at hq
      split at hq
      case h_2 => exact hq.elim
      rename_i s ρ1 es
      split at hq
      case h_2 => exact hq.elim
      rename_i t ρ2 et
      refine ⟨ρ, fp, e, ?_⟩
      rw [es]
      intro v1 H1 fp1 fo1 e1 s1 q1 r1
      refine ⟨ρ1, fp1, e1, ?_⟩
      rw [et]
      intro v2 H2 fp2 fo2 e2 s2 q2 r2
      obtain ⟨p1, p2, k1⟩ := q1 rfl
      obtain ⟨p3, p4, k2⟩ := q2 rfl
      split at hq
      · rename_i eim c1
        simp only [Bool.and_eq_true] at eim
        split at hq
        case h_2 => exact hq.elim
        rename_i u ρ3 eu
        split at hq
        case h_2 => exact hq.elim
        rename_i b eiu ech
        have z1 := Rep.imm_nil (show Rep X.K H1 s v1 fo1 from r1) eim.1
        have z2 := Rep.imm_nil (show Rep X.K H2 t v2 fo2 from r2) eim.2
        subst z1 z2
        have r1' := Rep.ext k2 (show Rep X.K H1 s v1 [] from r1)
        refine cmp_use ok e2 r1' r2 c1 fun H3 kk => ⟨true, rfl, ?_⟩
        have s3 : Step fp H fp2 [] H3 := (s1.trans0 s2).trans0 (Step.ext kk)
        rw [if_pos rfl]
        refine ⟨ρ2, fp2, e2.ext kk, ?_⟩
        rw [eu]
        intro v3 H4 fp3 fo3 e4 s4 q4 r4
        have z3 := Rep.imm_nil (show Rep X.K H4 u v3 fo3 from r4) eiu
        subst z3
        obtain ⟨p5, p6, k3⟩ := q4 rfl
        refine cmp_use ok' e4 (Rep.ext (fun a o z => k3 a o (kk a o z)) (show Rep X.K H2 t v2 [] from r2)) r4 ech fun H5 k5 => ⟨b, rfl, ?_⟩
        exact hq H5 fp3 (e4.ext k5) ((s3.trans0 s4).trans0 (Step.ext k5)) fun _ => ⟨p5.trans (p3.trans p1), p6.trans (p4.trans p2), fun a o z => k5 a o (k3 a o (kk a o (k2 a o (k1 a o z))))⟩
      · rename_i eim c1
        simp only [Bool.and_eq_true] at eim
        have z1 := Rep.imm_nil (show Rep X.K H1 s v1 fo1 from r1) eim.1
        have z2 := Rep.imm_nil (show Rep X.K H2 t v2 fo2 from r2) eim.2
        subst z1 z2
        have r1' := Rep.ext k2 (show Rep X.K H1 s v1 [] from r1)
        refine cmp_use ok e2 r1' r2 c1 fun H3 kk => ⟨false, rfl, ?_⟩
        have s3 : Step fp H fp2 [] H3 := (s1.trans0 s2).trans0 (Step.ext kk)
        rw [if_neg Bool.false_ne_true]
        exact ⟨false, rfl, hq H3 fp2 (e2.ext kk) s3 fun _ => ⟨p3.trans p1, p4.trans p2, fun a o z => kk a o (k2 a o (k1 a o z))⟩⟩
      · exact hq.elim
    · cases h
end Pv
set_option Elab.async false
set_option linter.all false
set_option maxRecDepth 100000
set_option maxHeartbeats 2000000
/-! Pv part E: operations with an effect: calls, methods that change a list. -/
namespace Pv
open PySem L2

def O.slot : O → Option Nat
  | .p i _ => some i
  | _ => none
def slots (os : List O) : List Nat := os.filterMap O.slot
theorem slots_v {t : T} {os : List O} : slots (.v t :: os) = slots os := rfl
theorem slots_p {i : Nat} {q : List Nat} {os : List O} : slots (.p i q :: os) = i :: slots os := rfl
def getOs (ρ : Rho) : List O → Option (List T)
  | [] => some []
  | o :: os => match getO ρ o, getOs ρ os with
    | some t, some ts => some (t :: ts)
    | _, _ => none
/-- the arguments' trees behind the operation, written back to their places -/
def wb : List O → Rho → Rho → Option Rho
  | [], _, ρ => some ρ
  | .v _ :: os, _ :: rs, ρ => wb os rs ρ
  | .p i path :: os, r :: rs, ρ => match r with
    | some t' => match ρ[i]? with
      | some (some t) => wb os rs (ρ.set i (some (T.put t' t path)))
      | _ => none
    | none => match path with
      | [] => wb os rs (ρ.set i none)
      | _ => none
  | _ :: _, [], _ => none

inductive FR where
  | ok (r : T) (ρ : Rho) | ex (c : Nat) (t : T) (ρ : Rho) | stuck

theorem wb_at : ∀ {os : List O} {ρA ρ ρ2 : Rho}, (slots os).Nodup → wb os ρA ρ = some ρ2 → ρ2.length = ρ.length ∧ (∀ i, i ∉ slots os → ρ2[i]? = ρ[i]?) ∧
    ∀ (j i : Nat) (path : List Nat), os[j]? = some (.p i path) → ∃ r, ρA[j]? = some r ∧ ((∃ t' t0, r = some t' ∧ ρ[i]? = some (some t0) ∧ ρ2[i]? = some (some (T.put t' t0 path))) ∨ (r = none ∧ path = [] ∧ ∀ t, ρ2[i]? ≠ some (some t)))
  | [], ρA, ρ, ρ2, _, h => by
    cases h
    exact ⟨rfl, fun _ _ => rfl, fun j i path e => by simp at e⟩
  | .v t :: os, [], ρ, ρ2, _, h => by simp [wb] at h
  | .p i path :: os, [], ρ, ρ2, _, h => by simp [wb] at h
  | .v t :: os, r :: ρA, ρ, ρ2, nd, h => by
    simp only [wb] at h
    obtain ⟨h1, h2, h3⟩ := wb_at (os := os) (slots_v ▸ nd) h
    refine ⟨h1, fun i hi => h2 i (by simpa [slots, O.slot] using hi), fun j i path e => ?_⟩
    cases j with
    | zero => simp at e
    | succ j => simpa using h3 j i path (by simpa using e)
  | .p i path :: os, r :: ρA, ρ, ρ2, nd, h => by
    have nd' : i ∉ slots os ∧ (slots os).Nodup := by simpa [slots, O.slot] using nd
    have mem : ∀ k : Nat, k ∉ slots (.p i path :: os) → k ≠ i ∧ k ∉ slots os := fun k hk => by simpa [slots, O.slot] using hk
    have inS : ∀ (j k : Nat) (q : List Nat), os[j]? = some (O.p k q) → k ∈ slots os := fun j k q e => List.mem_filterMap.mpr ⟨_, List.mem_of_getElem? e, rfl⟩
    have fin : ∀ (x : Option T), wb os ρA (ρ.set i x) = some ρ2 → i < ρ.length ∨ (∀ t, x ≠ some t) → ((∃ t' t0, r = some t' ∧ ρ[i]? = some (some t0) ∧ x = some (T.put t' t0 path)) ∨ (r = none ∧ path = [] ∧ x = none)) →
        ρ2.length = ρ.length ∧ (∀ k, k ∉ slots (.p i path :: os) → ρ2[k]? = ρ[k]?) ∧
        ∀ (j k : Nat) (q : List Nat), (O.p i path :: os)[j]? = some (.p k q) → ∃ r', (r :: ρA)[j]? = some r' ∧ ((∃ t' t0, r' = some t' ∧ ρ[k]? = some (some t0) ∧ ρ2[k]? = some (some (T.put t' t0 q))) ∨ (r' = none ∧ q = [] ∧ ∀ t, ρ2[k]? ≠ some (some t))) := fun x hx hl cs => by
      obtain ⟨h1, h2, h3⟩ := wb_at (os := os) nd'.2 hx
      refine ⟨by rw [h1, List.length_set], fun k hk => ?_, fun j k q e => ?_⟩
      · rw [h2 k (mem k hk).2, List.getElem?_set_ne (Ne.symm (mem k hk).1)]
      · cases j with
        | zero =>
          have e' : i = k ∧ path = q := by simpa using e
          obtain ⟨rfl, rfl⟩ := e'
          refine ⟨r, rfl, ?_⟩
          have e2 := h2 i nd'.1
          rcases cs with ⟨t', t0, c1, c2, c3⟩ | ⟨c1, c2, c3⟩
          · refine .inl ⟨t', t0, c1, c2, ?_⟩
            have hi : i < ρ.length := (List.getElem?_eq_some_iff.mp c2).1
            rw [e2, List.getElem?_set_self hi, c3]
          · refine .inr ⟨c1, c2, fun t => ?_⟩
            rw [e2, c3]
            by_cases hi : i < ρ.length
            · rw [List.getElem?_set_self hi]; exact fun z => by cases z
            · rw [List.getElem?_eq_none (by simpa using hi)]; exact fun z => by cases z
        | succ j =>
          have e' : os[j]? = some (.p k q) := by simpa using e
          have hk : k ≠ i := fun z => nd'.1 (z ▸ inS j k q e')
          obtain ⟨r', hr', cs'⟩ := h3 j k q e'
          refine ⟨r', by simpa using hr', ?_⟩
          rcases cs' with ⟨t', t0, c1, c2, c3⟩ | c
          · exact .inl ⟨t', t0, c1, by rw [List.getElem?_set_ne (Ne.symm hk)] at c2; exact c2, c3⟩
          · exact .inr c
    cases r with
    | some t' =>
      simp only [wb] at h
      split at h
      · rename_i t et
        exact fin _ h (.inl (List.getElem?_eq_some_iff.mp et).1) (.inl ⟨t', t, rfl, et, rfl⟩)
      · cases h
    | none =>
      cases path with
      | nil => exact fin none (by simpa [wb] using h) (.inr fun t z => by cases z) (.inr ⟨rfl, rfl, rfl⟩)
      | cons k p => simp [wb] at h

def consF (g : List Addr) (f : Fp) : Fp
  | 0 => g
  | j + 1 => f j
section
variable {K : PySem.W.Frag} {ρ : Rho} {fp : Fp} {σ : L2.St} {H : Hp}
theorem Env.nil : Env K [] (fun _ => []) [] H := ⟨rfl, fun i t h => by simp at h, fun _ _ => rfl, fun _ => .nil, fun _ _ _ h => by cases h⟩
theorem Env.cons {t : T} {v : V} {g : List Addr} (e : Env K ρ fp σ H) (r : Rep K H t v g) (nd : g.Nodup) (d : ∀ a ∈ g, ¬ In fp a) : Env K (some t :: ρ) (consF g fp) (some v :: σ) H := by
  refine ⟨by simp [e.len], fun i s h => ?_, fun i h => ?_, fun i => ?_, fun i j a h1 h2 => ?_⟩
  · cases i with
    | zero => have : t = s := by simpa using h
              subst this; exact ⟨v, rfl, r⟩
    | succ i => exact e.rep i s (by simpa using h)
  · cases i with
    | zero => exact absurd rfl (h t)
    | succ i => exact e.emp i fun s hs => h s (by simpa using hs)
  · cases i with
    | zero => exact nd
    | succ i => exact e.nd i
  · cases i with
    | zero =>
      cases j with
      | zero => rfl
      | succ j => exact (d a h1 ⟨j, h2⟩).elim
    | succ i =>
      cases j with
      | zero => exact (d a h2 ⟨i, h1⟩).elim
      | succ j => rw [e.dj i j a h1 h2]
theorem in_cons {g : List Addr} {a : Addr} (h : In (consF g fp) a) : a ∈ g ∨ In fp a := by
  obtain ⟨i, h⟩ := h
  cases i with
  | zero => exact .inl h
  | succ i => exact .inr ⟨i, h⟩

/-- the arguments as slots of a callee -/
theorem args_env (e : Env K ρ fp σ H) : ∀ {os : List O} {vs : List V} {fo : List Addr} {ts : List T}, ORs K ρ fp σ H os vs fo → getOs ρ os = some ts → fo.Nodup → (∀ a ∈ fo, ¬ In fp a) → (slots os).Nodup →
    ∃ fpA, Env K (ts.map some) fpA (vs.map some) H ∧ (∀ a, In fpA a → a ∈ fo ∨ ∃ (j i : Nat) (path : List Nat), os[j]? = some (O.p i path) ∧ a ∈ fpA j) ∧
      ∀ (j i : Nat) (path : List Nat), os[j]? = some (O.p i path) → ∃ u t0 s v, σ[i]? = some (some u) ∧ ρ[i]? = some (some t0) ∧ vs[j]? = some v ∧ RepP K H path t0 u (fp i) s v (fpA j)
  | [], vs, fo, ts, o, g, _, _, _ => by
    obtain ⟨rfl, rfl⟩ := o
    cases g
    refine ⟨fun _ => [], Env.nil, fun a h => ?_, fun j i path h => ?_⟩
    · obtain ⟨_, h⟩ := h
      cases h
    · simp at h
  | .v t :: os, vs, fo, ts, o, g, nd, d, ns => by
    obtain ⟨v, ws, f1, f2, rfl, rfl, r, o2⟩ := o
    simp only [getOs, getO] at g
    cases h2 : getOs ρ os with
    | none => rw [h2] at g; cases g
    | some ts' =>
      rw [h2] at g
      cases g
      have nd' := List.nodup_append.mp nd
      obtain ⟨fpA, eA, own, pl⟩ := args_env e (os := os) o2 h2 nd'.2.1 (fun a h => d a (List.mem_append_right _ h)) (slots_v ▸ ns)
      refine ⟨consF f1 fpA, eA.cons r nd'.1 fun a h z => ?_, fun a h => ?_, fun j i path h => ?_⟩
      · rcases own a z with z | ⟨j, i, path, ej, z⟩
        · exact nd'.2.2 a h a z rfl
        · obtain ⟨u, t0, s, w, h1, h2, h3, rp⟩ := pl j i path ej
          obtain ⟨_, _, _, f1', f2', ef, _⟩ := rp.use
          exact d a (List.mem_append_left _ h) ⟨i, by rw [ef]; simp [z]⟩
      · rcases in_cons h with h | h
        · exact .inl (List.mem_append_left _ h)
        · rcases own a h with h | ⟨j, i, path, ej, z⟩
          · exact .inl (List.mem_append_right _ h)
          · exact .inr ⟨j + 1, i, path, by simpa using ej, z⟩
      · cases j with
        | zero => simp at h
        | succ j => exact pl j i path (by simpa using h)
  | .p i path :: os, vs, fo, ts, o, g, nd, d, ns => by
    obtain ⟨v, ws, f1, f2, rfl, rfl, ⟨rfl, u, t0, s, g0, h1, h2, rp⟩, o2⟩ := o
    simp only [getOs] at g
    obtain ⟨rt, rs, ea, a1, a2, ef, back⟩ := rp.use
    have ns' : i ∉ slots os ∧ (slots os).Nodup := by simpa [slots, O.slot] using ns
    cases h3 : getOs ρ os with
    | none =>
      rw [h3] at g
      simp only [getO, h2, ea] at g
      cases g
    | some ts' =>
      rw [h3] at g
      simp only [getO, h2, ea] at g
      cases g
      obtain ⟨fpA, eA, own, pl⟩ := args_env e (os := os) o2 h3 (by simpa using nd) (fun a h => d a (by simpa using h)) ns'.2
      have ndi := e.nd i
      rw [ef] at ndi
      have inS : ∀ (j k : Nat) (q : List Nat), os[j]? = some (O.p k q) → k ∈ slots os := fun j k q e => List.mem_filterMap.mpr ⟨_, List.mem_of_getElem? e, rfl⟩
      refine ⟨consF g0 fpA, eA.cons rs (List.nodup_append.mp (List.nodup_append.mp ndi).1).2.1 fun a h z => ?_, fun a h => ?_, fun j k q h => ?_⟩
      · have hi : a ∈ fp i := by rw [ef]; simp [h]
        rcases own a z with z | ⟨j, k, q, ej, z⟩
        · exact d a (by simpa using z) ⟨i, hi⟩
        · obtain ⟨u', t0', s', w', k1, k2, k3, rp'⟩ := pl j k q ej
          obtain ⟨_, _, _, f1', f2', ef', _⟩ := rp'.use
          have hk : a ∈ fp k := by rw [ef']; simp [z]
          exact ns'.1 (e.dj i k a hi hk ▸ inS j k q ej)
      · rcases in_cons h with h | h
        · exact .inr ⟨0, i, path, rfl, h⟩
        · rcases own a h with h | ⟨j, k, q, ej, z⟩
          · exact .inl (by simpa using h)
          · exact .inr ⟨j + 1, k, q, by simpa using ej, z⟩
      · cases j with
        | zero =>
          have e' : i = k ∧ path = q := by simpa using h
          obtain ⟨rfl, rfl⟩ := e'
          exact ⟨u, t0, s, v, h1, h2, rfl, rp⟩
        | succ j => exact pl j k q (by simpa using h)

theorem slot_uniq : ∀ {os : List O} {j j' i : Nat} {q q' : List Nat}, (slots os).Nodup → os[j]? = some (O.p i q) → os[j']? = some (O.p i q') → j = j'
  | [], _, _, _, _, _, _, h1, _ => by simp at h1
  | o :: os, j, j', i, q, q', ns, h1, h2 => by
    have inS' : ∀ (j k : Nat) (q : List Nat), os[j]? = some (O.p k q) → k ∈ slots os := fun j k q e => List.mem_filterMap.mpr ⟨_, List.mem_of_getElem? e, rfl⟩
    have ns2 : (slots os).Nodup := by
      cases o with
      | v t =>
        exact (slots_v ▸ ns : (slots os).Nodup)
      | p k r => exact (by simpa [slots, O.slot] using ns : k ∉ slots os ∧ (slots os).Nodup).2
    cases j with
    | zero =>
      cases j' with
      | zero => rfl
      | succ j' =>
        have e1 : o = .p i q := by simpa using h1
        subst e1
        have z := inS' j' i q' (by simpa using h2)
        exact absurd z (by simpa [slots, O.slot] using ns : i ∉ slots os ∧ (slots os).Nodup).1
    | succ j =>
      cases j' with
      | zero =>
        have e1 : o = .p i q' := by simpa using h2
        subst e1
        have z := inS' j i q (by simpa using h1)
        exact absurd z (by simpa [slots, O.slot] using ns : i ∉ slots os ∧ (slots os).Nodup).1
      | succ j' => rw [slot_uniq (os := os) (j := j) (j' := j') ns2 (by simpa using h1) (by simpa using h2)]

/-- behind the operation: the places hold what it left -/
theorem args_back {os : List O} {vs : List V} {fo : List Addr} {fpA fpA' : Fp} {ρA ρ2 : Rho} {H2 : Hp} {fo2 : List Addr} (e : Env K ρ fp σ H) (d : ∀ a ∈ fo, ¬ In fp a) (ns : (slots os).Nodup)
    (own : ∀ a, In fpA a → a ∈ fo ∨ ∃ (j i : Nat) (path : List Nat), os[j]? = some (O.p i path) ∧ a ∈ fpA j)
    (pl : ∀ (j i : Nat) (path : List Nat), os[j]? = some (O.p i path) → ∃ u t0 s v, σ[i]? = some (some u) ∧ ρ[i]? = some (some t0) ∧ vs[j]? = some v ∧ RepP K H path t0 u (fp i) s v (fpA j))
    (lA : Lists (In fpA) H) (eA : Env K ρA fpA' (vs.map some) H2) (s : Step fpA H fpA' fo2 H2) (w : wb os ρA ρ = some ρ2) :
    ∃ fp2, Env K ρ2 fp2 σ H2 ∧ (∀ a, In fp2 a → In fp a ∨ In fpA' a) ∧ (∀ a ∈ fo2, ¬ In fp2 a) ∧ ((∀ (j i : Nat) (q : List Nat), os[j]? = some (O.p i q) → False) → fp2 = fp) := by
  obtain ⟨wl, wn, wp⟩ := wb_at ns w
  by_cases np : ∀ (j i : Nat) (q : List Nat), os[j]? = some (O.p i q) → False
  · have dis : ∀ a, In fp a → ¬ In fpA a := fun a ha z => by
      rcases own a z with z | ⟨j', i', q, ej', z⟩
      · exact d a z ha
      · exact np j' i' q ej'
    have hn : ∀ i, i ∉ slots os := fun i z => by
      obtain ⟨o, ho, z⟩ := List.mem_filterMap.mp z
      obtain ⟨j, hj⟩ := List.mem_iff_getElem?.mp ho
      cases o with
      | v t => cases z
      | p k q => exact np j k q hj
    refine ⟨fp, ⟨by rw [wl]; exact e.len, fun i t ht => ?_, fun i z => e.emp i fun t ht => z t (by rw [wn i (hn i)]; exact ht), e.nd, e.dj⟩, fun a h => .inl h, fun a ha hf => ?_, fun _ => rfl⟩
    · rw [wn i (hn i)] at ht
      obtain ⟨v, hv, r⟩ := e.rep i t ht
      exact ⟨v, hv, r.keep s.keep lA fun a ha => dis a ⟨i, ha⟩⟩
    · rcases s.sub a (.inr ha) with z | z
      · exact dis a hf z
      · obtain ⟨xs, w⟩ := e.own a hf
        rw [w] at z; cases z
  have inS : ∀ (j k : Nat) (q : List Nat), os[j]? = some (O.p k q) → k ∈ slots os := fun j k q e => List.mem_filterMap.mpr ⟨_, List.mem_of_getElem? e, rfl⟩
  have uniq : ∀ (j j' i : Nat) (q q' : List Nat), os[j]? = some (O.p i q) → os[j']? = some (O.p i q') → j = j' := fun j j' i q q' => slot_uniq ns
  have old : ∀ i a, a ∈ fp i → H a ≠ none := fun i a h => by
    obtain ⟨xs, z⟩ := e.own a ⟨i, h⟩
    rw [z]; exact fun z => by cases z
  -- each slot by itself
  have each : ∀ i, ∃ f : List Addr, (∀ t, ρ2[i]? = some (some t) → ∃ v, σ[i]? = some (some v) ∧ Rep K H2 t v f) ∧ ((∀ t, ρ2[i]? ≠ some (some t)) → f = []) ∧ f.Nodup ∧
      ∀ a ∈ f, (a ∈ fp i ∧ ¬ In fpA a) ∨ ∃ (j : Nat) (path : List Nat), os[j]? = some (O.p i path) ∧ a ∈ fpA' j := by
    intro i
    by_cases hi : ∃ (j : Nat) (path : List Nat), os[j]? = some (O.p i path)
    · obtain ⟨j, path, ej⟩ := hi
      obtain ⟨u, t0, s0, v, h1, h2, h3, rp⟩ := pl j i path ej
      obtain ⟨rt, rs, ea, a1, a2, ef, back⟩ := rp.use
      obtain ⟨r, hr, cs⟩ := wp j i path ej
      have ndi := e.nd i
      rw [ef] at ndi
      have dis : ∀ a, a ∈ fp i → a ∉ fpA j → ¬ In fpA a := fun a ha hn z => by
        rcases own a z with z | ⟨j', i', q, ej', z⟩
        · exact d a z ⟨i, ha⟩
        · obtain ⟨u', t0', s', w', k1, k2, k3, rp'⟩ := pl j' i' q ej'
          obtain ⟨_, _, _, f1', f2', ef', _⟩ := rp'.use
          have hk : a ∈ fp i' := by rw [ef']; simp [z]
          have ei := e.dj i i' a ha hk
          subst ei
          have := uniq j j' i path q ej ej'
          subst this
          exact hn z
      have n1 : ∀ a ∈ a1, a ∉ fpA j := fun a h z => (List.nodup_append.mp (List.nodup_append.mp ndi).1).2.2 a h a z rfl
      have n2 : ∀ a ∈ a2, a ∉ fpA j := fun a h z => (List.nodup_append.mp ndi).2.2 a (List.mem_append_right _ z) a h rfl
      have m1 : ∀ a ∈ a1, a ∈ fp i := fun a h => by rw [ef]; simp [h]
      have m2 : ∀ a ∈ a2, a ∈ fp i := fun a h => by rw [ef]; simp [h]
      have fresh : ∀ a, a ∈ fpA' j → a ∈ fp i → a ∈ fpA j := fun a h h' => by
        apply Classical.byContradiction
        intro hn
        rcases s.sub a (.inl ⟨j, h⟩) with z | z
        · exact dis a h' hn z
        · exact old i a h' z
      rcases cs with ⟨t', t0', rfl, c2, c3⟩ | ⟨rfl, rfl, c3⟩
      · rw [h2] at c2
        cases c2
        obtain ⟨v', hv', r'⟩ := eA.rep j t' hr
        have ev : v' = v := by
          rw [List.getElem?_map, h3] at hv'
          cases hv'; rfl
        subst ev
        have fin := back H2 t' (fpA' j) (In fpA) s.keep lA (fun a h => dis a (m1 a h) (n1 a h)) (fun a h => dis a (m2 a h) (n2 a h)) r'
        refine ⟨a1 ++ fpA' j ++ a2, fun t ht => ?_, fun z => absurd c3 (z _), ?_, fun a h => ?_⟩
        · rw [c3] at ht
          cases ht
          exact ⟨u, h1, fin⟩
        · refine List.nodup_append.mpr ⟨List.nodup_append.mpr ⟨(List.nodup_append.mp (List.nodup_append.mp ndi).1).1, eA.nd j, fun a x b y z => ?_⟩, (List.nodup_append.mp ndi).2.1, fun a x b y z => ?_⟩
          · subst z
            exact n1 a x (fresh a y (m1 a x))
          · subst z
            rcases List.mem_append.mp x with x | x
            · exact (List.nodup_append.mp ndi).2.2 a (List.mem_append_left _ x) a y rfl
            · exact n2 a y (fresh a x (m2 a y))
        · rcases List.mem_append.mp h with h | h
          · rcases List.mem_append.mp h with h | h
            · exact .inl ⟨m1 a h, dis a (m1 a h) (n1 a h)⟩
            · exact .inr ⟨j, path, ej, h⟩
          · exact .inl ⟨m2 a h, dis a (m2 a h) (n2 a h)⟩
      · exact ⟨[], fun t ht => absurd ht (c3 t), fun _ => rfl, .nil, fun a h => by cases h⟩
    · have hn : i ∉ slots os := fun z => by
        obtain ⟨o, ho, z⟩ := List.mem_filterMap.mp z
        obtain ⟨j, hj⟩ := List.mem_iff_getElem?.mp ho
        cases o with
        | v t => cases z
        | p k q =>
          have : k = i := by simpa [O.slot] using z
          subst this
          exact hi ⟨j, q, hj⟩
      have dis : ∀ a, a ∈ fp i → ¬ In fpA a := fun a ha z => by
        rcases own a z with z | ⟨j', i', q, ej', z⟩
        · exact d a z ⟨i, ha⟩
        · obtain ⟨u', t0', s', w', k1, k2, k3, rp'⟩ := pl j' i' q ej'
          obtain ⟨_, _, _, f1', f2', ef', _⟩ := rp'.use
          have hk : a ∈ fp i' := by rw [ef']; simp [z]
          have ei := e.dj i i' a ha hk
          subst ei
          exact hi ⟨j', q, ej'⟩
      refine ⟨fp i, fun t ht => ?_, fun z => ?_, e.nd i, fun a h => .inl ⟨h, dis a h⟩⟩
      · rw [wn i hn] at ht
        obtain ⟨v, hv, r⟩ := e.rep i t ht
        exact ⟨v, hv, r.keep s.keep lA dis⟩
      · exact e.emp i fun t ht => z t (by rw [wn i hn]; exact ht)
  obtain ⟨fp2, h⟩ := Classical.axiomOfChoice each
  have inA : ∀ i a, a ∈ fp2 i → (a ∈ fp i ∧ ¬ In fpA a) ∨ ∃ (j : Nat) (path : List Nat), os[j]? = some (O.p i path) ∧ a ∈ fpA' j := fun i a ha => (h i).2.2.2 a ha
  refine ⟨fp2, ⟨by rw [wl]; exact e.len, fun i t ht => (h i).1 t ht, fun i z => (h i).2.1 z, fun i => (h i).2.2.1, fun i k a h1 h2 => ?_⟩, fun a ⟨i, ha⟩ => ?_, fun a ha ⟨i, hi⟩ => ?_, fun z => absurd z np⟩
  · rcases inA i a h1 with ⟨x1, x2⟩ | ⟨j, q, ej, x⟩
    · rcases inA k a h2 with ⟨y1, y2⟩ | ⟨j', q', ej', y⟩
      · exact e.dj i k a x1 y1
      · rcases s.sub a (.inl ⟨j', y⟩) with z | z
        · exact (x2 z).elim
        · exact (old i a x1 z).elim
    · rcases inA k a h2 with ⟨y1, y2⟩ | ⟨j', q', ej', y⟩
      · rcases s.sub a (.inl ⟨j, x⟩) with z | z
        · exact (y2 z).elim
        · exact (old k a y1 z).elim
      · have := eA.dj j j' a x y
        subst this
        rw [ej] at ej'
        have z := Option.some.inj ej'
        injection z
  · rcases inA i a ha with ⟨x1, x2⟩ | ⟨j, q, ej, x⟩
    · exact .inl ⟨i, x1⟩
    · exact .inr ⟨j, x⟩
  · rcases inA i a hi with ⟨x1, x2⟩ | ⟨j, q, ej, x⟩
    · rcases s.sub a (.inr ha) with z | z
      · exact x2 z
      · exact old i a x1 z
    · exact s.dj a ha ⟨j, x⟩
end

/-- what an operation with an effect promises, by the trees of its arguments -/
def postF (K : PySem.W.Frag) (xi : XI) (vs : List V) (fp : Fp) (H : Hp) (Q : VK) (E : XK) : FR → Prop
  | .ok r ρ' => ∀ v H' fp' fo, Env K ρ' fp' (vs.map some) H' → Step fp H fp' fo H' → Rep K H' r v fo → Q v H'
  | .ex c t ρ' => ∀ d H' fp', Env K ρ' fp' (vs.map some) H' → Step fp H fp' [] H' → XRep K xi H' d c t → E (.ref (xi.xc c)) (some d) H'
  | .stuck => False
def spF (K : PySem.W.Frag) (xi : XI) (n : Nat) (φ : List T → FR) : Sp := fun vs H Q E => ∃ ts fp, ts.length = n ∧ Env K (ts.map some) fp (vs.map some) H ∧ postF K xi vs fp H Q E (φ ts)

def effFin (os : List O) (ρ : Rho) (τ : Bool) : FR → R
  | .ok r ρA => match wb os ρA ρ with
    | some ρ2 => .ok (.v r) ρ2 (τ || !(slots os).isEmpty)
    | none => .stuck
  | .ex c t ρA => match wb os ρA ρ with
    | some ρ2 => .ex c t ρ2
    | none => .stuck
  | .stuck => .stuck
def nodupB : List Nat → Bool
  | [] => true
  | n :: ns => !ns.contains n && nodupB ns
theorem nodup_of : ∀ {ns : List Nat}, nodupB ns = true → ns.Nodup
  | [], _ => .nil
  | n :: ns, h => by
    simp only [nodupB, Bool.and_eq_true, Bool.not_eq_true'] at h
    exact List.nodup_cons.mpr ⟨by simpa using h.1, nodup_of h.2⟩
def effSem (n : Nat) (ss : List (Rho → R)) (φ : List T → FR) : Rho → R := fun ρ => match evL ss ρ with
  | .ok os ρ' τ => match getOs ρ' os with
    | some ts => if nodupB (slots os) = true ∧ ts.length = n then effFin os ρ' τ (φ ts) else .stuck
    | none => .stuck
  | .ex c t ρ' => .ex c t ρ'
  | .stuck => .stuck
theorem noslot : ∀ {os : List O} {ρA ρ ρ2 : Rho}, (slots os).isEmpty = true → wb os ρA ρ = some ρ2 → ρ2 = ρ
  | [], _, _, _, _, h => by cases h; rfl
  | .v _ :: os, [], _, _, _, h => by simp [wb] at h
  | .v _ :: os, r :: rs, _, _, n, h => noslot (os := os) (by simpa [slots, O.slot] using n) (by simpa [wb] using h)
  | .p i q :: os, _, _, _, n, _ => by simp [slots, O.slot] at n

theorem eff_to {K : PySem.W.Frag} {xi : XI} {W : WX} {n : Nat} {ss : List (Rho → R)} {φ : List T → FR} {r : L2.St → List V → Hp → VK → Prop} {σ : L2.St} {H : Hp} {Q : VK}
    (ok : ∀ vs H Q, spF K xi n φ vs H Q (fun cls d H => W cls d σ H) → r σ vs H Q) (h : tE K xi W (effSem n ss φ) σ H Q) : nest K xi W ss σ H fun vs H1 => r σ vs H1 Q := by
  obtain ⟨ρ, fp, e, h⟩ := h
  refine nest_of ⟨ρ, fp, e, ?_⟩
  simp only [effSem] at h
  cases hs : evL ss ρ with
  | stuck => rw [hs] at h; exact h
  | ex c t ρ1 => rw [hs] at h; exact h
  | ok os ρ1 τ1 =>
    rw [hs] at h
    simp only at h
    cases hg : getOs ρ1 os with
    | none => rw [hg] at h; exact h.elim
    | some ts =>
      rw [hg] at h
      simp only at h
      by_cases c : nodupB (slots os) = true ∧ ts.length = n
      · rw [if_pos c] at h
        obtain ⟨c, cn⟩ := c
        intro vs H1 fp1 fo1 e1 s1 q1 o1
        obtain ⟨fpA, eA, own, pl⟩ := args_env e1 o1 hg s1.nd s1.dj (nodup_of c)
        refine ok vs H1 Q ⟨ts, fpA, cn, eA, ?_⟩
        have whole : ∀ {fp2 fpA' : Fp} {H2 : Hp} {fo2 : List Addr}, Step fpA H1 fpA' fo2 H2 → (∀ a, In fp2 a → In fp1 a ∨ In fpA' a) → (∀ a ∈ fo2, ¬ In fp2 a) → Step fp H fp2 fo2 H2 := fun {fp2 fpA' H2 fo2} s2 hi hd => by
          have inA : ∀ a, In fpA a → In fp a ∨ H a = none := fun a h => by
            rcases own a h with h | ⟨j, i, q, ej, h⟩
            · exact s1.sub a (.inr h)
            · obtain ⟨u', t0', s', w', k1, k2, k3, rp'⟩ := pl j i q ej
              obtain ⟨_, _, _, f1', f2', ef', _⟩ := rp'.use
              exact s1.sub a (.inl ⟨i, by rw [ef']; simp [h]⟩)
          have up : ∀ a, In fpA a ∨ H1 a = none → In fp a ∨ H a = none := fun a h => by
            rcases h with h | h
            · exact inA a h
            · exact s1.back h
          refine ⟨fun a o z n => s2.keep a o (s1.keep a o z n) fun w => ?_, fun a z => ?_, s2.nd, hd⟩
          · rcases inA a w with w | w
            · exact n w
            · rw [z] at w; cases w
          · rcases z with z | z
            · rcases hi a z with z | z
              · exact s1.sub a (.inl z)
              · exact up a (s2.sub a (.inl z))
            · exact up a (s2.sub a (.inr z))
        cases hφ : φ ts with
        | stuck => rw [hφ] at h; exact h
        | ok r ρA =>
          rw [hφ] at h
          simp only [effFin] at h
          cases hw : wb os ρA ρ1 with
          | none => rw [hw] at h; exact h.elim
          | some ρ2 =>
            rw [hw] at h
            intro v H2 fpA' fo2 eA' s2 rv
            obtain ⟨fp2, e2, hi, hd, hz⟩ := args_back e1 s1.dj (nodup_of c) own pl eA.own eA' s2 hw
            refine h v H2 fp2 fo2 e2 (whole s2 hi hd) (fun z => ?_) rv
            simp only [Bool.or_eq_false_iff, Bool.not_eq_false'] at z
            obtain ⟨p1, p2, k1⟩ := q1 z.1
            have np : ∀ (j i : Nat) (q : List Nat), os[j]? = some (O.p i q) → False := fun j i q ej => by
              have := List.mem_filterMap.mpr ⟨_, List.mem_of_getElem? ej, (rfl : O.slot (O.p i q) = some i)⟩
              have w := z.2
              simp only [List.isEmpty_iff] at w
              rw [show os.filterMap O.slot = [] from w] at this
              cases this
            have nA : ∀ a o, H a = some o → ¬ In fpA a := fun a o ha w => by
              rcases own a w with w | ⟨j, i, q, ej, w⟩
              · rcases s1.sub a (.inr w) with w2 | w2
                · exact s1.dj a w (p2 ▸ w2)
                · rw [ha] at w2; cases w2
              · exact np j i q ej
            exact ⟨(noslot z.2 hw).trans p1, (hz np).trans p2, fun a o ha => s2.keep a o (k1 a o ha) (nA a o ha)⟩
        | ex c' t ρA =>
          rw [hφ] at h
          simp only [effFin] at h
          cases hw : wb os ρA ρ1 with
          | none => rw [hw] at h; exact h.elim
          | some ρ2 =>
            rw [hw] at h
            intro d' H2 fpA' eA' s2 x
            obtain ⟨fp2, e2, hi, hd, hz⟩ := args_back e1 s1.dj (nodup_of c) own pl eA.own eA' s2 hw
            exact h d' H2 fp2 e2 (whole s2 hi hd) x
      · rw [if_neg c] at h; exact h.elim
end Pv
set_option Elab.async false
set_option linter.all false
set_option maxRecDepth 100000
set_option maxHeartbeats 2000000
/-! Pv part F: tests, items, slices, displays. -/
namespace Pv
open PySem L2

/-! ### tests -/
/-- its truth is asked of its value -/
def byTruth : Expr → Bool
  | .UnaryOp .Not _ _ => false
  | .BoolOp _ _ _ => false
  | .IfExp _ _ _ _ => false
  | .Compare _ _ _ _ => false
  | _ => true
theorem isTrue_of {x : Expr} {env : PySem.Env} (h : byTruth x = true) : ∀ whole, isTrue x env whole = (do let v ← whole; standAt x.pos; holding [v] (truthy v)) := by
  intro whole
  cases x <;> first | rfl | (cases h; done) | skip
  rename_i op _ _
  cases op <;> first | rfl | cases h
/-- a call or a name that is True or False, as a test -/
def bOf (a : Ex) : Bx where
  sem := boolSem a.sem
  m := fun N sc cm e => byTruth e && a.m N sc cm e
  pre := a.pre
  snd := fun {X xi N sc lvl cm W x} g p h => by
    simp only [Bool.and_eq_true] at h
    exact PT.to (pt_val (a.snd g p h.2) (isTrue_of h.1)) fun σ H Q hq => bool_to hq
def truthT : T → Option Bool
  | .non => some false
  | .bl b => some b
  | .int i => some (i != 0)
  | .str y => if y.length ≤ sizeLine then some ((y.length : Int) != 0) else none
  | .lst ts => some (!ts.isEmpty)
  | .tup ts => some (!ts.isEmpty)
  | .fro ns => some (!ns.isEmpty)
theorem tru_of {K : PySem.W.Frag} {H : Hp} {t : T} {v : V} {f : List Addr} {k : Bool} (h : Rep K H t v f) (e : truthT t = some k) : TruV K v H k := by
  cases t with
  | non => rw [h.1]; cases e; rfl
  | bl b => rw [h.1]; cases e; rfl
  | int i => rw [h.1]; cases e; rfl
  | str s =>
    rw [h.1]
    simp only [truthT] at e
    split at e
    · rename_i c; cases e; exact ⟨c, rfl⟩
    · cases e
  | tup ts =>
    obtain ⟨a, vs, rfl, s, r⟩ := h
    cases e
    refine .inr (.inl ⟨vs, s, ?_⟩)
    have := r.len
    cases vs <;> cases ts <;> first | rfl | simp at this
  | lst ts =>
    obtain ⟨a, vs, g, rfl, _, s, r⟩ := h
    cases e
    refine .inl ⟨vs, SqL.of s, ?_⟩
    have := r.len
    cases vs <;> cases ts <;> first | rfl | simp at this
  | fro ns =>
    obtain ⟨_, a, rfl, h⟩ := h
    cases e
    refine .inl ⟨ns.map .int, ?_, by cases ns <;> rfl⟩
    rcases h with ⟨o, h⟩ | h
    · exact .inl (.inr ⟨o, h⟩)
    · exact h H
def truSem (s : Rho → R) : Rho → RB := fun ρ => match s ρ with
  | .ok o ρ' τ => match getO ρ' o with
    | some t => match truthT t with
      | some b => .ok b ρ' τ
      | none => .stuck
    | none => .stuck
  | .ex c t ρ' => .ex c t ρ'
  | .stuck => .stuck
def bTruth (a : Ex) : Bx where
  sem := truSem a.sem
  m := fun N sc cm e => byTruth e && a.m N sc cm e
  pre := a.pre
  snd := fun {X xi N sc lvl cm W x} g p h => by
    simp only [Bool.and_eq_true] at h
    refine PT.to (pt_truth (a.snd g p h.2) (isTrue_of h.1)) fun σ H Q hq => ?_
    obtain ⟨ρ, fp, e, hq⟩ := hq
    refine ⟨ρ, fp, e, ?_⟩
    simp only [truSem] at hq
    cases hs : a.sem ρ with
    | stuck => rw [hs] at hq; exact hq
    | ex c t ρ' => rw [hs] at hq; exact hq
    | ok o ρ' τ =>
      rw [hs] at hq
      simp only at hq
      cases hg : getO ρ' o with
      | none => rw [hg] at hq; exact hq.elim
      | some t =>
        rw [hg] at hq
        simp only at hq
        cases hk : truthT t with
        | none => rw [hk] at hq; exact hq.elim
        | some b =>
          rw [hk] at hq
          intro v H' fp' fo' e' s' q' r'
          obtain ⟨f, rf, _⟩ := r'.get e' hg
          exact ⟨b, tru_of rf hk, hq H' fp' e' s'.drop q'⟩
/-- and, or over several tests -/
def andSem : List (Rho → RB) → Rho → RB
  | [], _ => .stuck
  | [a], ρ => a ρ
  | a :: b :: r, ρ => match a ρ with
    | .ok true ρ1 τ1 => match andSem (b :: r) ρ1 with
      | .ok k ρ2 τ2 => .ok k ρ2 (τ1 || τ2)
      | x => x
    | x => x
def orSem : List (Rho → RB) → Rho → RB
  | [], _ => .stuck
  | [a], ρ => a ρ
  | a :: b :: r, ρ => match a ρ with
    | .ok false ρ1 τ1 => match orSem (b :: r) ρ1 with
      | .ok k ρ2 τ2 => .ok k ρ2 (τ1 || τ2)
      | x => x
    | x => x
def allM : List Bx → List Str → Scope → Bool → List Expr → Bool
  | [], _, _, _, [] => true
  | b :: bs, N, sc, cm, e :: es => b.m N sc cm e && allM bs N sc cm es
  | _, _, _, _, _ => false
def allPre : List Bx → Gm → Nat → Prop
  | [], _, _ => True
  | b :: bs, Γ, k => b.pre Γ k ∧ allPre bs Γ k
theorem PW.to {X : Cx} {e : Expr} {t t' : TT} (h : PW X e t) (w : ∀ σ H Q, t' σ H Q → t σ H Q) : PW X e t' := ⟨fun wh pins s σ H Q I q => h.run wh pins s σ H Q I (w σ H Q q)⟩
theorem two_to {K : PySem.W.Frag} {xi : XI} {W : WX} {a b : Rho → RB} {stop : Bool} {c : Rho → RB} (hc : ∀ ρ, c ρ = match a ρ with
    | .ok k ρ1 τ1 => if k = stop then .ok k ρ1 τ1 else (match b ρ1 with
      | .ok k ρ2 τ2 => .ok k ρ2 (τ1 || τ2)
      | x => x)
    | x => x) {σ : L2.St} {H : Hp} {Q : Bool → Hp → Prop} (h : tT K xi W c σ H Q) : tT K xi W a σ H fun k H1 => if k = stop then Q k H1 else tT K xi W b σ H1 Q := by
  obtain ⟨ρ, fp, e, h⟩ := h
  refine ⟨ρ, fp, e, ?_⟩
  rw [hc] at h
  cases ha : a ρ with
  | stuck => rw [ha] at h; exact h
  | ex c t ρ' => rw [ha] at h; exact h
  | ok k ρ1 τ1 =>
    rw [ha] at h
    simp only at h
    intro H1 fp1 e1 s1 q1
    by_cases ck : k = stop
    · rw [if_pos ck] at h ⊢
      exact h H1 fp1 e1 s1 q1
    · rw [if_neg ck] at h ⊢
      refine ⟨ρ1, fp1, e1, ?_⟩
      cases hb : b ρ1 with
      | stuck => rw [hb] at h; exact h
      | ex c t ρ' => rw [hb] at h; exact fun d H2 fp2 e2 s2 x => h d H2 fp2 e2 (s1.trans0 s2) x
      | ok k2 ρ2 τ2 =>
        rw [hb] at h
        exact fun H2 fp2 e2 s2 q2 => h H2 fp2 e2 (s1.trans0 s2) fun z => by
          simp only [Bool.or_eq_false_iff] at z
          exact (q1 z.1).trans (q2 z.2)
theorem and_pw {X : Cx} {xi : XI} {N : List Str} {sc : Scope} {lvl : Nat} {cm : Bool} {W : WX} {pos : Pos} (g : Gd X xi N sc lvl cm W) : ∀ {bs : List Bx} {es : List Expr}, bs ≠ [] → allPre bs (gm X xi) lvl → allM bs N sc cm es = true → PW X (.BoolOp .And es pos) (tT X.K xi W (andSem (bs.map Bx.sem)))
  | [], _, n, _, _ => absurd rfl n
  | [b], [], _, _, h => by simp [allM] at h
  | [b], [e], _, p, h => by
    simp only [allM, Bool.and_true] at h
    exact pw_and1 (b.snd g p.1 h)
  | [b], _ :: _ :: _, _, _, h => by simp [allM] at h
  | b :: c :: bs, [], _, _, h => by simp [allM] at h
  | b :: c :: bs, [e], _, _, h => by simp [allM] at h
  | b :: c :: bs, e :: e2 :: es, _, p, h => by
    simp only [allM, Bool.and_eq_true] at h
    refine PW.to (pw_and (b.snd g p.1 h.1) (and_pw g (bs := c :: bs) (es := e2 :: es) (by simp) p.2 (by simpa [allM] using h.2))) fun σ H Q hq => ?_
    refine (show tT X.K xi W b.sem σ H fun k H1 => if k = true then tT X.K xi W (andSem ((c :: bs).map Bx.sem)) σ H1 Q else Q false H1 from ?_)
    have z := two_to (a := b.sem) (b := andSem ((c :: bs).map Bx.sem)) (stop := false) (fun ρ => ?_) hq
    · obtain ⟨ρ, fp, e, z⟩ := z
      refine ⟨ρ, fp, e, ?_⟩
      cases hb : b.sem ρ with
      | stuck => rw [hb] at z; exact z
      | ex c t ρ' => rw [hb] at z; exact z
      | ok k ρ1 τ1 =>
        rw [hb] at z
        intro H1 fp1 e1 s1 q1
        have w := z H1 fp1 e1 s1 q1
        cases k with
        | true => simpa using w
        | false => simpa using w
    · simp only [List.map_cons, andSem]
      cases b.sem ρ with
      | ok k ρ1 τ1 => cases k <;> rfl
      | _ => rfl
theorem or_pw {X : Cx} {xi : XI} {N : List Str} {sc : Scope} {lvl : Nat} {cm : Bool} {W : WX} {pos : Pos} (g : Gd X xi N sc lvl cm W) : ∀ {bs : List Bx} {es : List Expr}, bs ≠ [] → allPre bs (gm X xi) lvl → allM bs N sc cm es = true → PW X (.BoolOp .Or es pos) (tT X.K xi W (orSem (bs.map Bx.sem)))
  | [], _, n, _, _ => absurd rfl n
  | [b], [], _, _, h => by simp [allM] at h
  | [b], [e], _, p, h => by
    simp only [allM, Bool.and_true] at h
    exact pw_or1 (b.snd g p.1 h)
  | [b], _ :: _ :: _, _, _, h => by simp [allM] at h
  | b :: c :: bs, [], _, _, h => by simp [allM] at h
  | b :: c :: bs, [e], _, _, h => by simp [allM] at h
  | b :: c :: bs, e :: e2 :: es, _, p, h => by
    simp only [allM, Bool.and_eq_true] at h
    refine PW.to (pw_or (b.snd g p.1 h.1) (or_pw g (bs := c :: bs) (es := e2 :: es) (by simp) p.2 (by simpa [allM] using h.2))) fun σ H Q hq => ?_
    refine (show tT X.K xi W b.sem σ H fun k H1 => if k = true then Q true H1 else tT X.K xi W (orSem ((c :: bs).map Bx.sem)) σ H1 Q from ?_)
    have z := two_to (a := b.sem) (b := orSem ((c :: bs).map Bx.sem)) (stop := true) (fun ρ => ?_) hq
    · obtain ⟨ρ, fp, e, z⟩ := z
      refine ⟨ρ, fp, e, ?_⟩
      cases hb : b.sem ρ with
      | stuck => rw [hb] at z; exact z
      | ex c t ρ' => rw [hb] at z; exact z
      | ok k ρ1 τ1 =>
        rw [hb] at z
        intro H1 fp1 e1 s1 q1
        have w := z H1 fp1 e1 s1 q1
        cases k with
        | true => simpa using w
        | false => simpa using w
    · simp only [List.map_cons, orSem]
      cases b.sem ρ with
      | ok k ρ1 τ1 => cases k <;> rfl
      | _ => rfl
def bAnd (bs : List Bx) : Bx where
  sem := andSem (bs.map Bx.sem)
  m := fun N sc cm e => match e with
    | .BoolOp .And es _ => !bs.isEmpty && allM bs N sc cm es
    | _ => false
  pre := allPre bs
  snd := fun {X xi N sc lvl cm W x} g p h => by
    split at h
    · simp only [Bool.and_eq_true, Bool.not_eq_true', List.isEmpty_eq_false_iff] at h
      exact (and_pw g h.1 p h.2).pt
    · cases h
def bOr (bs : List Bx) : Bx where
  sem := orSem (bs.map Bx.sem)
  m := fun N sc cm e => match e with
    | .BoolOp .Or es _ => !bs.isEmpty && allM bs N sc cm es
    | _ => false
  pre := allPre bs
  snd := fun {X xi N sc lvl cm W x} g p h => by
    split at h
    · simp only [Bool.and_eq_true, Bool.not_eq_true', List.isEmpty_eq_false_iff] at h
      exact (or_pw g h.1 p h.2).pt
    · cases h
def notSem (a : Rho → RB) : Rho → RB := fun ρ => match a ρ with
  | .ok k ρ' τ => .ok (!k) ρ' τ
  | x => x
def bNot (a : Bx) : Bx where
  sem := notSem a.sem
  m := fun N sc cm e => match e with
    | .UnaryOp .Not x _ => a.m N sc cm x
    | _ => false
  pre := a.pre
  snd := fun {X xi N sc lvl cm W x} g p h => by
    split at h
    · refine PT.to (pt_not (a.snd g p h)) fun σ H Q hq => ?_
      obtain ⟨ρ, fp, e, hq⟩ := hq
      refine ⟨ρ, fp, e, ?_⟩
      simp only [notSem] at hq
      cases ha : a.sem ρ with
      | stuck => rw [ha] at hq; exact hq
      | ex c t ρ' => rw [ha] at hq; exact hq
      | ok k ρ1 τ1 => rw [ha] at hq; exact hq
    · cases h
/-! ### truths as values -/
def andV (a b : Rho → R) : Rho → R := fun ρ => match a ρ with
  | .ok (.v (.bl true)) ρ1 τ1 => match b ρ1 with
    | .ok o ρ2 τ2 => .ok o ρ2 (τ1 || τ2)
    | x => x
  | .ok (.v (.bl false)) ρ1 τ1 => .ok (.v (.bl false)) ρ1 τ1
  | .ok _ _ _ => .stuck
  | x => x
def orV (a b : Rho → R) : Rho → R := fun ρ => match a ρ with
  | .ok (.v (.bl false)) ρ1 τ1 => match b ρ1 with
    | .ok o ρ2 τ2 => .ok o ρ2 (τ1 || τ2)
    | x => x
  | .ok (.v (.bl true)) ρ1 τ1 => .ok (.v (.bl true)) ρ1 τ1
  | .ok _ _ _ => .stuck
  | x => x
/-- going on behind a quiet or loud first part -/
theorem post_more {K : PySem.W.Frag} {xi : XI} {W : WX} {σ : L2.St} {fp fp1 : Fp} {H H1 : Hp} {ρ ρ1 : Rho} {τ1 : Bool} {Q : VK} {b : Rho → R} (e1 : Env K ρ1 fp1 σ H1) (s1 : Step fp H fp1 [] H1) (q1 : τ1 = false → Quiet ρ fp H ρ1 fp1 H1)
    (h : postE K xi W σ fp H ρ Q (match b ρ1 with | .ok o ρ2 τ2 => .ok o ρ2 (τ1 || τ2) | x => x)) : tE K xi W b σ H1 Q := by
  refine ⟨ρ1, fp1, e1, ?_⟩
  cases hb : b ρ1 with
  | stuck => rw [hb] at h; exact h
  | ex c t ρ' => rw [hb] at h; exact fun d H2 fp2 e2 s2 x => h d H2 fp2 e2 (s1.trans0 s2) x
  | ok o ρ2 τ2 =>
    rw [hb] at h
    exact fun v H2 fp2 fo2 e2 s2 q2 r2 => h v H2 fp2 fo2 e2 (s1.trans0 s2) (fun z => by
      simp only [Bool.or_eq_false_iff] at z
      exact (q1 z.1).trans (q2 z.2)) r2
theorem andV_to {K : PySem.W.Frag} {xi : XI} {W : WX} {a b : Rho → R} {σ : L2.St} {H : Hp} {Q : VK} (h : tE K xi W (andV a b) σ H Q) : tAndV (tE K xi W a) (tE K xi W b) σ H Q := by
  obtain ⟨ρ, fp, e, h⟩ := h
  refine ⟨ρ, fp, e, ?_⟩
  simp only [andV] at h
  cases ha : a ρ with
  | stuck => rw [ha] at h; exact h
  | ex c t ρ' => rw [ha] at h; exact h
  | ok o ρ1 τ1 =>
    rw [ha] at h
    cases o with
    | p i q => exact h.elim
    | v t =>
      cases t <;> first | exact (show False from h).elim | skip
      rename_i k
      intro v H1 fp1 fo1 e1 s1 q1 r1
      refine ⟨k, r1.1, ?_⟩
      cases k with
      | true =>
        rw [if_pos rfl]
        exact post_more e1 s1.drop q1 h
      | false =>
        rw [if_neg Bool.false_ne_true]
        exact h _ H1 fp1 [] e1 s1.drop q1 ⟨rfl, rfl⟩
theorem orV_to {K : PySem.W.Frag} {xi : XI} {W : WX} {a b : Rho → R} {σ : L2.St} {H : Hp} {Q : VK} (h : tE K xi W (orV a b) σ H Q) : tOrV (tE K xi W a) (tE K xi W b) σ H Q := by
  obtain ⟨ρ, fp, e, h⟩ := h
  refine ⟨ρ, fp, e, ?_⟩
  simp only [orV] at h
  cases ha : a ρ with
  | stuck => rw [ha] at h; exact h
  | ex c t ρ' => rw [ha] at h; exact h
  | ok o ρ1 τ1 =>
    rw [ha] at h
    cases o with
    | p i q => exact h.elim
    | v t =>
      cases t <;> first | exact (show False from h).elim | skip
      rename_i k
      intro v H1 fp1 fo1 e1 s1 q1 r1
      refine ⟨k, r1.1, ?_⟩
      cases k with
      | true =>
        rw [if_pos rfl]
        exact h _ H1 fp1 [] e1 s1.drop q1 ⟨rfl, rfl⟩
      | false =>
        rw [if_neg Bool.false_ne_true]
        exact post_more e1 s1.drop q1 h
def eAnd (a b : Ex) : Ex where
  sem := andV a.sem b.sem
  m := fun N sc cm e => match e with
    | .BoolOp .And [x, y] _ => a.m N sc cm x && b.m N sc cm y
    | _ => false
  pre := fun Γ k => a.pre Γ k ∧ b.pre Γ k
  snd := fun {X xi N sc lvl cm W x} g p h => by
    split at h
    · simp only [Bool.and_eq_true] at h
      exact PE.to (pe_and (a.snd g p.1 h.1) (pe_one (b.snd g p.2 h.2))) fun σ H Q hq => andV_to hq
    · cases h
def eOr (a b : Ex) : Ex where
  sem := orV a.sem b.sem
  m := fun N sc cm e => match e with
    | .BoolOp .Or [x, y] _ => a.m N sc cm x && b.m N sc cm y
    | _ => false
  pre := fun Γ k => a.pre Γ k ∧ b.pre Γ k
  snd := fun {X xi N sc lvl cm W x} g p h => by
    split at h
    · simp only [Bool.and_eq_true] at h
      exact PE.to (pe_or (a.snd g p.1 h.1) (pe_one (b.snd g p.2 h.2))) fun σ H Q hq => orV_to hq
    · cases h
def notT : T → Option T
  | .bl b => some (.bl (!b))
  | _ => none
def eNot (a : Ex) : Ex where
  sem := opSem [a.sem] (f1 notT)
  m := fun N sc cm e => match e with
    | .UnaryOp .Not x _ => a.m N sc cm x
    | _ => false
  pre := a.pre
  snd := fun {X xi N sc lvl cm W x} g p h => by
    split at h
    · refine PE.to (pe_not (a.snd g p h)) fun σ H Q hq => op_to (r := ru fun x H Q => ∃ c, x = .bl c ∧ Q (.bl (!c)) H) (ok1 fun H s u x fx hg rx Q p => ?_) hq
      unfold notT at hg
      split at hg <;> cases hg
      obtain ⟨rfl, _⟩ := rx
      exact ⟨_, rfl, p.v ⟨rfl, rfl⟩⟩
    · cases h
/-! ### a if t else b -/
def ifV (c : Rho → RB) (a b : Rho → R) : Rho → R := fun ρ => match c ρ with
  | .ok k ρ1 τ1 => if k = true then (match a ρ1 with
      | .ok o ρ2 τ2 => .ok o ρ2 (τ1 || τ2)
      | x => x) else (match b ρ1 with
      | .ok o ρ2 τ2 => .ok o ρ2 (τ1 || τ2)
      | x => x)
  | .ex c t ρ' => .ex c t ρ'
  | .stuck => .stuck
def eIf (c : Bx) (a b : Ex) : Ex where
  sem := ifV c.sem a.sem b.sem
  m := fun N sc cm e => match e with
    | .IfExp t x y _ => c.m N sc cm t && (a.m N sc cm x && b.m N sc cm y)
    | _ => false
  pre := fun Γ k => c.pre Γ k ∧ a.pre Γ k ∧ b.pre Γ k
  snd := fun {X xi N sc lvl cm W x} g p h => by
    split at h
    · simp only [Bool.and_eq_true] at h
      refine PE.to (pe_ifExp (c.snd g p.1 h.1) (a.snd g p.2.1 h.2.1) (b.snd g p.2.2 h.2.2)) fun σ H Q hq => ?_
      obtain ⟨ρ, fp, e, hq⟩ := hq
      refine ⟨ρ, fp, e, ?_⟩
      simp only [ifV] at hq
      cases ha : c.sem ρ with
      | stuck => rw [ha] at hq; exact hq
      | ex c t ρ' => rw [ha] at hq; exact hq
      | ok k ρ1 τ1 =>
        rw [ha] at hq
        simp only at hq
        intro H1 fp1 e1 s1 q1
        cases k with
        | true =>
          rw [if_pos rfl] at hq ⊢
          exact post_more e1 s1 q1 hq
        | false =>
          rw [if_neg Bool.false_ne_true] at hq ⊢
          exact post_more e1 s1 q1 hq
    · cases h
end Pv
set_option Elab.async false
set_option linter.all false
set_option maxRecDepth 100000
set_option maxHeartbeats 2000000
/-! Pv part G: items, slices, displays, calls of built-ins and own defs, methods. -/
namespace Pv
open PySem L2

/-! ### items -/
def notSlice : Expr → Bool
  | .Slice _ _ _ _ => false
  | _ => true
theorem plainIx_of {x : Expr} (h : notSlice x = true) : PlainIx x := by
  intro o i
  cases x <;> first | rfl | cases h
def itemO (oa : O) (k : Nat) (s : T) : Option O := if s.imm = true then some (.v s) else match oa with
  | .p j path => some (.p j (path ++ [k]))
  | .v _ => none
def ixO (ρ : Rho) (oa : O) : T → T → Option O
  | .str z, .int i => if z.length ≤ sizeLine then (match atI z.cps.toList i with
    | some c => some (.v (.str ⟨#[c]⟩))
    | none => none) else none
  | .fro ns, .int i => match atI ns i with
    | some n => some (.v (.int n))
    | none => none
  | .tup ts, .int i => match ixN ts.length i with
    | some k => match ts[k]? with
      | some s => itemO oa k s
      | none => none
    | none => none
  | .lst ts, .int i => match ixN ts.length i with
    | some k => match ts[k]? with
      | some s => itemO oa k s
      | none => none
    | none => none
  | _, _ => none
def ixSem (a b : Rho → R) : Rho → R := fun ρ => match evL [a, b] ρ with
  | .ok [oa, ob] ρ' τ => match getO ρ' oa, getO ρ' ob with
    | some s, some t => match ixO ρ' oa s t with
      | some o => .ok o ρ' τ
      | none => .stuck
    | _, _ => .stuck
  | .ok _ _ _ => .stuck
  | .ex c t ρ' => .ex c t ρ'
  | .stuck => .stuck
section
variable {K : PySem.W.Frag} {ρ : Rho} {fp : Fp} {σ : L2.St} {H : Hp}
theorem atI_of {α : Type} {xs : List α} {i : Int} {k : Nat} {x : α} (h : ixN xs.length i = some k) (e : xs[k]? = some x) : atI xs i = some x := by
  unfold atI
  rw [h]
  exact e
theorem item_of {t s : T} {ts : List T} {v : V} {f : List Addr} {i : Int} {k : Nat} (h : Rep K H t v f) (hi : t = .tup ts ∨ t = .lst ts) (hk : ixN ts.length i = some k) (e : ts[k]? = some s) :
    ∃ y g, (∀ Q : V → Hp → Prop, Q y H → rIx K v (.int i) H Q) ∧ RepP K H [k] t v f s y g := by
  rcases hi with rfl | rfl
  · obtain ⟨a, vs, rfl, sq, r⟩ := h
    obtain ⟨y, f1, g, f2, hy, rfl, ry, r1, r2⟩ := Reps.get r e
    have el := r.len
    exact ⟨y, g, fun Q q => .inr (.inl ⟨a, vs, i, y, rfl, rfl, sq, atI_of (by rw [el]; exact hk) hy, q⟩), ⟨a, vs, s, y, f1, g, f2, rfl, rfl, sq, e, hy, r1, ⟨rfl, rfl, rfl, ry⟩, r2⟩⟩
  · obtain ⟨a, vs, f', rfl, rfl, sq, r⟩ := h
    obtain ⟨y, f1, g, f2, hy, rfl, ry, r1, r2⟩ := Reps.get r e
    have el := r.len
    exact ⟨y, g, fun Q q => .inl ⟨a, vs, i, y, rfl, rfl, SqL.of sq, atI_of (by rw [el]; exact hk) hy, q⟩, ⟨a, vs, s, y, f1, g, f2, rfl, rfl, sq, e, hy, r1, ⟨rfl, rfl, rfl, ry⟩, r2⟩⟩
theorem fro_sq {ns : List Int} {v : V} {f : List Addr} (h : Rep K H (.fro ns) v f) : ∃ a, v = .ref a ∧ SqL K H a (ns.map .int) := by
  obtain ⟨_, a, rfl, h⟩ := h
  rcases h with ⟨o, h⟩ | h
  · exact ⟨a, rfl, .inl (.inr ⟨o, h⟩)⟩
  · exact ⟨a, rfl, h H⟩
theorem ix_ok {oa o : O} {va vb : V} {fa fb : List Addr} {s t : T} (e : Env K ρ fp σ H) (ra : OR K ρ fp σ H oa va fa) (ga : getO ρ oa = some s) (rb : Rep K H t vb fb) (h : ixO ρ oa s t = some o) {Q : V → Hp → Prop}
    (q : ∀ v, OR K ρ fp σ H o v [] → Q v H) : rIx K va vb H Q := by
  have seq : ∀ {ts : List T} {i : Int}, (s = .tup ts ∨ s = .lst ts) → (match ixN ts.length i with | some k => (match ts[k]? with | some x => itemO oa k x | none => none) | none => none) = some o → rIx K va (.int i) H Q := fun {ts i} hs h => by
    cases hk : ixN ts.length i with
    | none => rw [hk] at h; cases h
    | some k =>
      rw [hk] at h
      simp only at h
      cases hx : ts[k]? with
      | none => rw [hx] at h; cases h
      | some x =>
        rw [hx] at h
        simp only [itemO] at h
        obtain ⟨fs, rs, _⟩ := ra.get e ga
        split at h
        · rename_i im
          cases h
          obtain ⟨y, g, rix, rp⟩ := item_of rs hs hk hx
          have rx := rp.use.2.1
          have z := rx.imm_nil im
          subst z
          exact rix Q (q y rx)
        · cases oa with
          | v _ => cases h
          | p j path =>
            cases h
            obtain ⟨_, u, t0, s', g', h1, h2, h3⟩ := ra
            have e1 := h3.use.2.2.1
            simp only [getO, h2, e1] at ga
            cases ga
            obtain ⟨y, g, rix, rp⟩ := item_of h3.use.2.1 hs hk hx
            exact rix Q (q y ⟨rfl, u, t0, x, g, h1, h2, h3.comp rp⟩)
  unfold ixO at h
  split at h
  · rename_i z i
    obtain ⟨rfl, _⟩ := rb
    obtain ⟨fs, rs, _⟩ := ra.get e ga
    obtain ⟨rfl, _⟩ := rs
    split at h
    · rename_i hl
      cases hc : atI z.cps.toList i with
      | none => rw [hc] at h; cases h
      | some c =>
        rw [hc] at h
        cases h
        exact .inr (.inr ⟨z, i, c, rfl, rfl, hl, hc, q _ ⟨rfl, rfl⟩⟩)
    · cases h
  · rename_i ns i
    obtain ⟨rfl, _⟩ := rb
    obtain ⟨fs, rs, _⟩ := ra.get e ga
    obtain ⟨a, rfl, sq⟩ := fro_sq rs
    cases hc : atI ns i with
    | none => rw [hc] at h; cases h
    | some n =>
      rw [hc] at h
      cases h
      refine .inl ⟨a, ns.map .int, i, .int n, rfl, rfl, sq, ?_, q _ ⟨rfl, rfl⟩⟩
      unfold atI at hc ⊢
      rw [List.length_map]
      cases hk : ixN ns.length i with
      | none => rw [hk] at hc; cases hc
      | some k =>
        rw [hk] at hc
        simp only [Option.bind_some] at hc ⊢
        rw [List.getElem?_map, hc]; rfl
  · obtain ⟨rfl, _⟩ := rb
    exact seq (.inl rfl) h
  · obtain ⟨rfl, _⟩ := rb
    exact seq (.inr rfl) h
  · cases h
end
theorem two_of {K : PySem.W.Frag} {ρ : Rho} {fp : Fp} {σ : L2.St} {H : Hp} {oa ob : O} {vs : List V} {fo : List Addr} (h : ORs K ρ fp σ H [oa, ob] vs fo) : ∃ x y f g, vs = [x, y] ∧ fo = f ++ g ∧ OR K ρ fp σ H oa x f ∧ OR K ρ fp σ H ob y g := by
  obtain ⟨x, ws, f1', f2', rfl, rfl, o1, y, ws', f3', f4', rfl, rfl, o2, rfl, rfl⟩ := h
  exact ⟨x, y, f1', f3', rfl, by simp, o1, o2⟩
def eIx (a b : Ex) : Ex where
  sem := ixSem a.sem b.sem
  m := fun N sc cm e => match e with
    | .Subscript x y _ => notSlice y && (a.m N sc cm x && b.m N sc cm y)
    | _ => false
  pre := fun Γ k => a.pre Γ k ∧ b.pre Γ k
  snd := fun {X xi N sc lvl cm W x} g p h => by
    split at h
    · simp only [Bool.and_eq_true] at h
      refine PE.to (pe_ix ix_seq (a.snd g p.1 h.2.1) (b.snd g p.2 h.2.2) (plainIx_of h.1)) fun σ H Q hq => ?_
      obtain ⟨ρ, fp, e, hq⟩ := hq
      show nest X.K xi W [a.sem, b.sem] σ H fun vs H1 => rr (rIx X.K) vs H1 Q
      refine nest_of ⟨ρ, fp, e, ?_⟩
      simp only [ixSem] at hq
      cases hs : evL [a.sem, b.sem] ρ with
      | stuck => rw [hs] at hq; exact hq
      | ex c t ρ' => rw [hs] at hq; exact hq
      | ok os ρ1 τ1 =>
        rw [hs] at hq
        intro vs H1 fp1 fo1 e1 s1 q1 o1
        rcases os with _ | ⟨oa, _ | ⟨ob, _ | ⟨oc, os⟩⟩⟩
        · exact hq.elim
        · exact hq.elim
        · simp only at hq
          obtain ⟨x, y, f, g', rfl, rfl, ra, rb⟩ := two_of o1
          cases ga : getO ρ1 oa with
          | none => rw [ga] at hq; exact hq.elim
          | some s =>
            cases gb : getO ρ1 ob with
            | none => rw [ga, gb] at hq; exact hq.elim
            | some t =>
              rw [ga, gb] at hq
              simp only at hq
              cases hx : ixO ρ1 oa s t with
              | none => rw [hx] at hq; exact hq.elim
              | some o =>
                rw [hx] at hq
                obtain ⟨fb, rb', _⟩ := rb.get e1 gb
                exact ix_ok e1 ra ga rb' hx fun v rv => hq v H1 fp1 [] e1 s1.drop q1 rv
        · exact hq.elim
    · cases h

/-! ### slices -/
def cutL {α : Type} (xs : List α) (lo hi : Option Int) : List α := (xs.drop (HT.sIx xs.length 0 lo)).take (HT.sIx xs.length xs.length hi - HT.sIx xs.length 0 lo)
def sliceT (lo hi : Option Int) : T → Option T
  | .str z => if z.length ≤ sizeLine then some (.str (cutS z lo hi)) else none
  | .tup ts => if T.imms ts = true then some (.tup (cutL ts lo hi)) else none
  | .lst ts => if T.imms ts = true then some (.lst (cutL ts lo hi)) else none
  | .fro ns => some (.lst ((cutL ns lo hi).map .int))
  | _ => none
theorem reps_cut {K : PySem.W.Frag} {H : Hp} {ts : List T} {vs : List V} (r : Reps K H ts vs []) (lo hi : Option Int) : Reps K H (cutL ts lo hi) (cutV vs lo hi) [] := by
  unfold cutL cutV
  rw [r.len]
  obtain ⟨f1, f2, e, _, r2⟩ := Reps.take (HT.sIx ts.length 0 lo) r
  obtain ⟨rfl, rfl⟩ : f1 = [] ∧ f2 = [] := by simpa using e.symm
  obtain ⟨g1, g2, e2, r3, _⟩ := Reps.take (HT.sIx ts.length ts.length hi - HT.sIx ts.length 0 lo) r2
  obtain ⟨rfl, rfl⟩ : g1 = [] ∧ g2 = [] := by simpa using e2.symm
  exact r3
theorem reps_ints {K : PySem.W.Frag} {H : Hp} : ∀ ns : List Int, Reps K H (ns.map .int) (ns.map .int) []
  | [] => ⟨rfl, rfl⟩
  | n :: ns => ⟨.int n, ns.map .int, [], [], rfl, rfl, ⟨rfl, rfl⟩, reps_ints ns⟩
def rSl3 (K : PySem.W.Frag) : V → Option Int → Option Int → Hp → VK → Prop := fun x lo hi H Q => rSlL K x lo hi H Q ∨ (rSlA K x lo hi H Q ∨ rSlS x lo hi H Q)
theorem sl_all {X : Cx} : SlR X (rSl3 X.K) := sl_list.or (sl_tupA.or sl_str)
theorem slice_ok {K : PySem.W.Frag} {H : Hp} {s u : T} {x : V} {fx : List Addr} {lo hi : Option Int} {Q : V → Hp → Prop} (h : sliceT lo hi s = some u) (r : Rep K H s x fx) (p : PureRes K H [] u Q) : rSl3 K x lo hi H Q := by
  cases s with
  | str z =>
    obtain ⟨rfl, _⟩ := r
    simp only [sliceT] at h
    split at h
    · rename_i c; cases h; exact .inr (.inr ⟨z, rfl, c, p.v ⟨rfl, rfl⟩⟩)
    · cases h
  | tup ts =>
    obtain ⟨a, vs, rfl, sq, r⟩ := r
    simp only [sliceT] at h
    split at h
    · rename_i c
      cases h
      have z := r.imm_nil c
      subst z
      refine .inr (.inl ⟨a, vs, rfl, sq, fun w => p.v ⟨a, vs, rfl, sq, ?_⟩, fun _ => p.tup (reps_cut r lo hi) (fun _ z => by cases z) .nil⟩)
      have e1 : cutV vs lo hi = vs := by unfold cutV; rw [w.1, w.2]; simp
      have := reps_cut r lo hi
      rw [e1] at this
      exact this
    · cases h
  | lst ts =>
    obtain ⟨a, vs, g, rfl, _, sq, r⟩ := r
    simp only [sliceT] at h
    split at h
    · rename_i c
      cases h
      have z := r.imm_nil c
      subst z
      exact .inl ⟨a, vs, rfl, SqL.of sq, p.lst (reps_cut r lo hi) (fun _ z => by cases z) .nil⟩
    · cases h
  | fro ns =>
    obtain ⟨a, rfl, sq⟩ := fro_sq r
    cases h
    refine .inl ⟨a, ns.map .int, rfl, sq, ?_⟩
    have e1 : cutV (ns.map V.int) lo hi = (cutL ns lo hi).map .int := by
      unfold cutV cutL
      rw [List.length_map, List.map_take, List.map_drop]
    rw [e1]
    exact p.lst (reps_ints _) (fun _ z => by cases z) .nil
  | _ => cases h
theorem tE.mono {K : PySem.W.Frag} {xi : XI} {W : WX} {s : Rho → R} {σ : L2.St} {H : Hp} {Q Q' : VK} (w : ∀ v H, Q v H → Q' v H) (h : tE K xi W s σ H Q) : tE K xi W s σ H Q' := by
  obtain ⟨ρ, fp, e, h⟩ := h
  refine ⟨ρ, fp, e, ?_⟩
  cases hs : s ρ with
  | stuck => rw [hs] at h; exact h
  | ex c t ρ' => rw [hs] at h; exact h
  | ok o ρ' τ => rw [hs] at h; exact fun v H' fp' fo e' s' q' r' => w _ _ (h v H' fp' fo e' s' q' r')
/-- its value is an int -/
def intSem (s : Rho → R) : Rho → R := fun ρ => match s ρ with
  | .ok o ρ' τ => match getO ρ' o with
    | some (.int i) => .ok (.v (.int i)) ρ' τ
    | _ => .stuck
  | x => x
theorem int_to {K : PySem.W.Frag} {xi : XI} {W : WX} {s : Rho → R} {σ : L2.St} {H : Hp} {Q : VK} (h : tE K xi W (intSem s) σ H Q) : tE K xi W s σ H fun x H1 => ∃ i, x = .int i ∧ Q (.int i) H1 := by
  obtain ⟨ρ, fp, e, h⟩ := h
  refine ⟨ρ, fp, e, ?_⟩
  simp only [intSem] at h
  cases hs : s ρ with
  | stuck => rw [hs] at h; exact h
  | ex c t ρ' => rw [hs] at h; exact h
  | ok o ρ' τ =>
    rw [hs] at h
    simp only at h
    cases hg : getO ρ' o with
    | none => rw [hg] at h; exact h.elim
    | some t =>
      rw [hg] at h
      cases t <;> first | exact (show False from h).elim | skip
      rename_i i
      intro v H' fp' fo e' s' q' r'
      obtain ⟨f, rf, _⟩ := r'.get e' hg
      exact ⟨i, rf.1, h _ H' fp' [] e' s'.drop q' ⟨rfl, rfl⟩⟩
/-- x[lo:hi], x[lo:], x[:hi] -/
def sl2F (s a b : T) : Option T := match a, b with
  | .int i, .int j => sliceT (some i) (some j) s
  | _, _ => none
def slLF (s a : T) : Option T := match a with
  | .int i => sliceT (some i) none s
  | _ => none
def slHF (s a : T) : Option T := match a with
  | .int i => sliceT none (some i) s
  | _ => none
def r2S (K : PySem.W.Frag) : List V → Hp → VK → Prop
  | [x, .int i, .int j], H, Q => rSl3 K x (some i) (some j) H Q
  | _, _, _ => False
def rLS (K : PySem.W.Frag) : List V → Hp → VK → Prop
  | [x, .int i], H, Q => rSl3 K x (some i) none H Q
  | _, _, _ => False
def rHS (K : PySem.W.Frag) : List V → Hp → VK → Prop
  | [x, .int i], H, Q => rSl3 K x none (some i) H Q
  | _, _, _ => False
def eSl2 (a lo hi : Ex) : Ex where
  sem := opSem [a.sem, intSem lo.sem, intSem hi.sem] (f3 sl2F)
  m := fun N sc cm e => match e with
    | .Subscript x (.Slice (some y) (some z) none _) _ => a.m N sc cm x && (lo.m N sc cm y && hi.m N sc cm z)
    | _ => false
  pre := fun Γ k => a.pre Γ k ∧ lo.pre Γ k ∧ hi.pre Γ k
  snd := fun {X xi N sc lvl cm W x} g p h => by
    split at h
    · simp only [Bool.and_eq_true] at h
      refine PE.to (pe_slice sl_all (a.snd g p.1 h.1) (po_some (lo.snd g p.2.1 h.2.1)) (po_some (hi.snd g p.2.2 h.2.2))) fun σ H Q hq => ?_
      have z := op_to (r := r2S X.K) (ok3 fun H s t u z x y w fx fy fw hg rx ry rw' Q p => by
        unfold sl2F at hg
        split at hg
        · obtain ⟨rfl, _⟩ := ry
          obtain ⟨rfl, _⟩ := rw'
          exact slice_ok hg rx p
        · cases hg) hq
      refine tE.mono (fun x H1 z => ?_) z
      refine tE.mono (fun y H2 z => ?_) (int_to z)
      obtain ⟨i, rfl, z⟩ := z
      refine ⟨i, rfl, tE.mono (fun w H3 z => ?_) (int_to z)⟩
      obtain ⟨j, rfl, z⟩ := z
      exact ⟨j, rfl, z⟩
    · cases h
def eSlL (a lo : Ex) : Ex where
  sem := opSem [a.sem, intSem lo.sem] (f2 slLF)
  m := fun N sc cm e => match e with
    | .Subscript x (.Slice (some y) none none _) _ => a.m N sc cm x && lo.m N sc cm y
    | _ => false
  pre := fun Γ k => a.pre Γ k ∧ lo.pre Γ k
  snd := fun {X xi N sc lvl cm W x} g p h => by
    split at h
    · simp only [Bool.and_eq_true] at h
      refine PE.to (pe_slice sl_all (a.snd g p.1 h.1) (po_some (lo.snd g p.2 h.2)) po_none) fun σ H Q hq => ?_
      have z := op_to (r := rLS X.K) (ok2 fun H s t u x y fx fy hg rx ry Q p => by
        unfold slLF at hg
        split at hg
        · obtain ⟨rfl, _⟩ := ry
          exact slice_ok hg rx p
        · cases hg) hq
      refine tE.mono (fun x H1 z => ?_) z
      refine tE.mono (fun y H2 z => ?_) (int_to z)
      obtain ⟨i, rfl, z⟩ := z
      exact ⟨i, rfl, z⟩
    · cases h
def eSlH (a hi : Ex) : Ex where
  sem := opSem [a.sem, intSem hi.sem] (f2 slHF)
  m := fun N sc cm e => match e with
    | .Subscript x (.Slice none (some y) none _) _ => a.m N sc cm x && hi.m N sc cm y
    | _ => false
  pre := fun Γ k => a.pre Γ k ∧ hi.pre Γ k
  snd := fun {X xi N sc lvl cm W x} g p h => by
    split at h
    · simp only [Bool.and_eq_true] at h
      refine PE.to (pe_slice sl_all (a.snd g p.1 h.1) po_none (po_some (hi.snd g p.2 h.2))) fun σ H Q hq => ?_
      have z := op_to (r := rHS X.K) (ok2 fun H s t u x y fx fy hg rx ry Q p => by
        unfold slHF at hg
        split at hg
        · obtain ⟨rfl, _⟩ := ry
          exact slice_ok hg rx p
        · cases hg) hq
      refine tE.mono (fun x H1 z => ?_) z
      refine tE.mono (fun y H2 z => ?_) (int_to z)
      obtain ⟨i, rfl, z⟩ := z
      exact ⟨i, rfl, z⟩
    · cases h

/-! ### displays -/
def allV : List O → Option (List T)
  | [] => some []
  | .v t :: os => match allV os with
    | some ts => some (t :: ts)
    | none => none
  | _ => none
theorem allV_reps {K : PySem.W.Frag} {ρ : Rho} {fp : Fp} {σ : L2.St} {H : Hp} : ∀ {os : List O} {ts : List T} {vs : List V} {fo : List Addr}, allV os = some ts → ORs K ρ fp σ H os vs fo → Reps K H ts vs fo
  | [], _, _, _, h, o => by cases h; exact o
  | .p _ _ :: _, _, _, _, h, _ => by cases h
  | .v t :: os, ts, vs, fo, h, o => by
    obtain ⟨v, ws, f1, f2, rfl, rfl, r, o⟩ := o
    simp only [allV] at h
    cases e : allV os with
    | none => rw [e] at h; cases h
    | some us =>
      rw [e] at h
      cases h
      exact ⟨v, ws, f1, f2, rfl, rfl, r, allV_reps e o⟩
def tupF (_ : Rho) (os : List O) : Option T := match allV os with
  | some ts => if ts.length ≤ 10000 then some (.tup ts) else none
  | none => none
def lstF (_ : Rho) (os : List O) : Option T := match allV os with
  | some ts => if ts.length ≤ 10000 then some (.lst ts) else none
  | none => none
theorem line_10000 {n : Nat} (h : n ≤ 10000) : n ≤ sizeLine := Nat.le_trans h (by decide)
def eTup (a : Xs) : Ex where
  sem := opSem a.sems tupF
  m := fun N sc cm e => match e with
    | .Tuple es _ _ => a.m N sc cm es
    | _ => false
  pre := a.pre
  snd := fun {X xi N sc lvl cm W x} g p h => by
    split at h
    · refine PE.to (pe_tup (a.snd g p h)) fun σ H Q hq => op_to (r := fun xs H Q => xs.length ≤ sizeLine ∧ ∀ p, H p = none → Q (.ref p) (upd H p (.tup xs))) (fun ρ fp σ H os vs fo t e o nd hf Q p => ?_) hq
      unfold tupF at hf
      split at hf
      · rename_i ts ht
        split at hf
        · rename_i c
          cases hf
          have r := allV_reps ht o
          exact ⟨by rw [r.len]; exact line_10000 c, p.tup r (fun _ z => z) nd⟩
        · cases hf
      · cases hf
    · cases h
def eLst (a : Xs) : Ex where
  sem := opSem a.sems lstF
  m := fun N sc cm e => match e with
    | .List es _ => a.m N sc cm es
    | _ => false
  pre := a.pre
  snd := fun {X xi N sc lvl cm W x} g p h => by
    split at h
    · refine PE.to (pe_lst (a.snd g p h)) fun σ H Q hq => op_to (r := fun xs H Q => xs.length ≤ sizeLine ∧ ∀ p, H p = none → Q (.ref p) (upd H p (.lst xs))) (fun ρ fp σ H os vs fo t e o nd hf Q p => ?_) hq
      unfold lstF at hf
      split at hf
      · rename_i ts ht
        split at hf
        · rename_i c
          cases hf
          have r := allV_reps ht o
          exact ⟨by rw [r.len]; exact line_10000 c, p.lst r (fun _ z => z) nd⟩
        · cases hf
      · cases hf
    · cases h

/-! ### calls of built-ins by name -/
def noStars : List Expr → Bool
  | [] => true
  | e :: es => notStar e && noStars es
theorem anyStar_of {env : PySem.Env} {pos : Pos} : ∀ {es : List Expr}, noStars es = true → (backTo pos (starEach es env)).any (·.1) = false
  | [], _ => rfl
  | e :: es, h => by
    simp only [noStars, Bool.and_eq_true] at h
    rw [starEach_of h.1]
    show (false || (backTo pos (starEach es env)).any (·.1)) = false
    rw [anyStar_of h.2]; rfl
def callM (x : Str) (a : Xs) (N : List Str) (sc : Scope) (cm : Bool) : Expr → Bool
  | .Call (.Name y _) (e :: es) [] _ => decide (y = x) && (glB sc y && (notStar e && (noStars es && a.m N sc cm (e :: es))))
  | _ => false
/-- a built-in function that changes nothing -/
def eCB (x : Str) (id : String) (hv : bootBuiltins x = some (.builtin id)) (a : Xs) (f : Rho → List O → Option T) (hr : ∀ X : Cx, X.A.units + 100 < cLine → ∃ r, CallR X (.builtin id) r ∧ OpOkL X.K f r) : Ex where
  sem := opSem a.sems f
  m := callM x a
  pre := fun Γ k => Γ.mg x = none ∧ a.pre Γ k
  snd := fun {X xi N sc lvl cm W e} g p h => by
    unfold callM at h
    split at h
    · simp only [Bool.and_eq_true, decide_eq_true_eq] at h
      obtain ⟨rfl, h1, h2, h3, h4⟩ := h
      have G := gl_of g.hsc h1
      obtain ⟨r, hr, ok⟩ := hr X g.un
      exact PE.to (pe_callB hr G.gl p.1 hv (a.snd g p.2 h4) G.nn G.db (starEach_of h2) (anyStar_of h3)) fun σ H Q hq => op_to ok hq
    · cases h
def eCT (x : Str) (id : String) (hv : bootBuiltins x = some (.type id)) (a : Xs) (f : Rho → List O → Option T) (hr : ∀ X : Cx, X.A.units + 100 < cLine → ∃ r, CallR X (.type id) r ∧ OpOkL X.K f r) : Ex where
  sem := opSem a.sems f
  m := callM x a
  pre := fun Γ k => Γ.mg x = none ∧ a.pre Γ k
  snd := fun {X xi N sc lvl cm W e} g p h => by
    unfold callM at h
    split at h
    · simp only [Bool.and_eq_true, decide_eq_true_eq] at h
      obtain ⟨rfl, h1, h2, h3, h4⟩ := h
      have G := gl_of g.hsc h1
      obtain ⟨r, hr, ok⟩ := hr X g.un
      exact PE.to (pe_callTy hr G.gl p.1 hv (a.snd g p.2 h4) G.nn G.db (starEach_of h2) (anyStar_of h3)) fun σ H Q hq => op_to ok hq
    · cases h
def lenT : T → Option T
  | .str z => if z.length ≤ sizeLine then some (.int z.length) else none
  | .lst ts => some (.int ts.length)
  | .tup ts => some (.int ts.length)
  | .fro ns => some (.int ns.length)
  | _ => none
def eLen (a : Ex) : Ex := eCB "len" "len" (by decide +kernel) (xs [a]) (f1 lenT) fun X hu => ⟨_, call_len, ok1 fun H s u x fx hg rx Q p => by
  cases s with
  | str z =>
    obtain ⟨rfl, _⟩ := rx
    simp only [lenT] at hg
    split at hg
    · rename_i c; cases hg; exact ⟨_, _, rfl, ⟨c, rfl⟩, p.v ⟨rfl, rfl⟩⟩
    · cases hg
  | lst ts =>
    obtain ⟨a, vs, g, rfl, _, sq, r⟩ := rx
    cases hg
    exact ⟨_, _, rfl, .inl ⟨vs, SqL.of sq, rfl⟩, p.v ⟨by rw [r.len], rfl⟩⟩
  | tup ts =>
    obtain ⟨a, vs, rfl, sq, r⟩ := rx
    cases hg
    exact ⟨_, _, rfl, .inr ⟨vs, sq, rfl⟩, p.v ⟨by rw [r.len], rfl⟩⟩
  | fro ns =>
    obtain ⟨a, rfl, sq⟩ := fro_sq rx
    cases hg
    exact ⟨_, _, rfl, .inl ⟨_, sq, rfl⟩, p.v ⟨by rw [List.length_map], rfl⟩⟩
  | _ => cases hg⟩
def tupleT : T → Option T
  | .lst ts => if T.imms ts = true then some (.tup ts) else none
  | .tup ts => if T.imms ts = true then some (.tup ts) else none
  | .fro ns => some (.tup (ns.map .int))
  | _ => none
def listT : T → Option T
  | .lst ts => if T.imms ts = true then some (.lst ts) else none
  | .tup ts => if T.imms ts = true then some (.lst ts) else none
  | .fro ns => some (.lst (ns.map .int))
  | _ => none
def eTuple (a : Ex) : Ex := eCT "tuple" "tuple" (by decide +kernel) (xs [a]) (f1 tupleT) fun X hu => ⟨_, call_tuple_of, ok1 fun H s u x fx hg rx Q p => by
  cases s with
  | lst ts =>
    obtain ⟨a, vs, g, rfl, _, sq, r⟩ := rx
    simp only [tupleT] at hg
    split at hg
    · rename_i c
      cases hg
      have z := r.imm_nil c
      subst z
      exact ⟨a, vs, rfl, .inl ⟨SqL.of sq, p.tup r (fun _ z => by cases z) .nil⟩⟩
    · cases hg
  | tup ts =>
    obtain ⟨a, vs, rfl, sq, r⟩ := rx
    simp only [tupleT] at hg
    split at hg
    · rename_i c
      cases hg
      have z := r.imm_nil c
      subst z
      exact ⟨a, vs, rfl, .inr ⟨sq, p.v ⟨a, vs, rfl, sq, r⟩⟩⟩
    · cases hg
  | fro ns =>
    obtain ⟨a, rfl, sq⟩ := fro_sq rx
    cases hg
    exact ⟨a, _, rfl, .inl ⟨sq, p.tup (reps_ints _) (fun _ z => by cases z) .nil⟩⟩
  | _ => cases hg⟩
def eList (a : Ex) : Ex := eCT "list" "list" (by decide +kernel) (xs [a]) (f1 listT) fun X hu => ⟨_, call_list_of, ok1 fun H s u x fx hg rx Q p => by
  cases s with
  | lst ts =>
    obtain ⟨a, vs, g, rfl, _, sq, r⟩ := rx
    simp only [listT] at hg
    split at hg
    · rename_i c
      cases hg
      have z := r.imm_nil c
      subst z
      exact ⟨a, vs, rfl, .inl (SqL.of sq), p.lst r (fun _ z => by cases z) .nil⟩
    · cases hg
  | tup ts =>
    obtain ⟨a, vs, rfl, sq, r⟩ := rx
    simp only [listT] at hg
    split at hg
    · rename_i c
      cases hg
      have z := r.imm_nil c
      subst z
      exact ⟨a, vs, rfl, .inr sq, p.lst r (fun _ z => by cases z) .nil⟩
    · cases hg
  | fro ns =>
    obtain ⟨a, rfl, sq⟩ := fro_sq rx
    cases hg
    exact ⟨a, _, rfl, .inl sq, p.lst (reps_ints _) (fun _ z => by cases z) .nil⟩
  | _ => cases hg⟩
/-- int(n) of an int -/
def intT : T → Option T
  | .int i => some (.int i)
  | _ => none
def eIntOf (a : Ex) : Ex := eCT "int" "int" (by decide +kernel) (xs [a]) (f1 intT) fun X hu => ⟨_, call_int1, ok1 fun H s u x fx hg rx Q p => by
  unfold intT at hg
  split at hg <;> cases hg
  obtain ⟨rfl, _⟩ := rx
  exact .inl ⟨_, rfl, p.v ⟨rfl, rfl⟩⟩⟩

/-! ### own defs -/
structure Fn where
  name : Str
  np : Nat
  φ : List T → FR
/-- the def stands, and keeps what is said of it at this level -/
def Has (Γ : Gm) (lvl : Nat) (F : Fn) : Prop := ∃ f fd ps, Γ.mg F.name = some (.ref f) ∧ PySem.W.keepIn Γ.K (.ref f) = true ∧ Binds Γ.K fd ps [] ∧ FnOk Γ.P Γ.w Γ.K Γ.mg Γ.base (L2.CX Γ.P Γ.w) lvl f fd ps (spF Γ.K Γ.xi F.np F.φ)
theorem Has.mono {Γ : Gm} {j k : Nat} {F : Fn} (h : Has Γ j F) (l : j ≤ k) : Has Γ k F := by
  obtain ⟨f, fd, ps, h1, h2, h3, h4⟩ := h
  exact ⟨f, fd, ps, h1, h2, h3, h4.mono l⟩
def eCall (F : Fn) (a : Xs) : Ex where
  sem := effSem F.np a.sems F.φ
  m := fun N sc cm e => cm && callM F.name a N sc cm e
  pre := fun Γ k => Has Γ k F ∧ a.pre Γ k
  snd := fun {X xi N sc lvl cm W e} g p h => by
    simp only [Bool.and_eq_true] at h
    obtain ⟨hc, h⟩ := h
    unfold callM at h
    split at h
    · simp only [Bool.and_eq_true, decide_eq_true_eq] at h
      obtain ⟨rfl, h1, h2, h3, h4⟩ := h
      have G := gl_of g.hsc h1
      obtain ⟨⟨f, fd, ps, k1, k2, k3, k4⟩, pa⟩ := p
      exact PE.to (pe_callS k4 (g.room hc) G.gl k1 k2 k3 (fun σ => passAt g.tk σ) (a.snd g pa h4) G.db (starEach_of h2) (anyStar_of h3)) fun σ H Q hq =>
        eff_to (r := fun σ vs H Q => spF X.K xi F.np F.φ vs H Q (WE W σ)) (fun vs H Q z => z) hq
    · cases h
end Pv
set_option Elab.async false
set_option linter.all false
set_option maxRecDepth 100000
set_option maxHeartbeats 2000000
/-! Pv part H: methods. -/
namespace Pv
open PySem L2

def notCall0 : Expr → Bool
  | .Call _ [] [] _ => false
  | _ => true
theorem base_of {o : Expr} {attr : Str} {env : PySem.Env} {whole : Sem Value} (h : notCall0 o = true) : attributeBase o attr env whole = whole := by
  unfold attributeBase
  cases o <;> try rfl
  rename_i f as kw p
  cases f <;> try rfl
  cases as <;> try rfl
  cases kw <;> first | rfl | cases h
def kindSem (p : T → Bool) (s : Rho → R) : Rho → R := fun ρ => match s ρ with
  | .ok o ρ' τ => match getO ρ' o with
    | some t => if p t = true then .ok o ρ' τ else .stuck
    | none => .stuck
  | x => x
theorem kind_to {K : PySem.W.Frag} {xi : XI} {W : WX} {p : T → Bool} {C : V → Hp → Prop} (hp : ∀ H t v f, p t = true → Rep K H t v f → C v H) {s : Rho → R} {σ : L2.St} {H : Hp} {Q : VK} (h : tE K xi W (kindSem p s) σ H Q) :
    tE K xi W s σ H fun x H1 => C x H1 ∧ Q x H1 := by
  obtain ⟨ρ, fp, e, h⟩ := h
  refine ⟨ρ, fp, e, ?_⟩
  simp only [kindSem] at h
  cases hs : s ρ with
  | stuck => rw [hs] at h; exact h
  | ex c t ρ' => rw [hs] at h; exact h
  | ok o ρ' τ =>
    rw [hs] at h
    simp only at h
    cases hg : getO ρ' o with
    | none => rw [hg] at h; exact h.elim
    | some t =>
      rw [hg] at h
      simp only at h
      by_cases c : p t = true
      · rw [if_pos c] at h
        intro v H' fp' fo e' s' q' r'
        obtain ⟨f, rf, _⟩ := r'.get e' hg
        exact ⟨hp _ _ _ _ c rf, h v H' fp' fo e' s' q' r'⟩
      · rw [if_neg c] at h; exact h.elim
def isLst : T → Bool
  | .lst _ => true
  | _ => false
def isStr : T → Bool
  | .str _ => true
  | _ => false
theorem ty_lst {K : PySem.W.Frag} (H : Hp) (t : T) (v : V) (f : List Addr) (c : isLst t = true) (r : Rep K H t v f) : tyV K "list" v H := by
  cases t <;> first | cases c | skip
  obtain ⟨a, vs, g, rfl, _, h, _⟩ := r
  exact .inl ⟨rfl, vs, SqL.of h⟩
theorem ty_str {K : PySem.W.Frag} (H : Hp) (t : T) (v : V) (f : List Addr) (c : isStr t = true) (r : Rep K H t v f) : tyV K "str" v H := by
  cases t <;> first | cases c | skip
  rw [r.1]
  rfl
def rm (r : V → List V → Hp → VK → Prop) : List V → Hp → VK → Prop
  | x :: xs, H, Q => r x xs H Q
  | [], _, _ => False

/-- the syntax of o.name(args): one or two arguments -/
def methM (name : Str) (o : Ex) (a : Xs) (N : List Str) (sc : Scope) (cm : Bool) : Expr → Bool
  | .Call (.Attribute x y apos) (e :: es) [] cpos => decide (y = name) && (notCall0 x && ((apos.endLine == cpos.line) && (o.m N sc cm x && (a.m N sc cm (e :: es) && (noStars (e :: es) && decide (es.length < 2))))))
  | _ => false
theorem pe_meth1 {X : Cx} {T id : String} {name : Str} {r : V → List V → Hp → VK → Prop} {o e : Expr} {es : List Expr} {to : TE} {t : TA} {apos cpos : Pos} (pa : PlainAttrs T) (slot : Slot T name id) (hty : typeOf (.builtin id) = pure (.type "method_descriptor")) (hm : MtR X id r)
    (ho : PE X o to) (ha : PA X (e :: es) t) (h0 : notCall0 o = true) (hline : (apos.endLine == cpos.line) = true) (hs : noStars (e :: es) = true) (hl : es.length < 2) :
    PE X (.Call (.Attribute o name apos) (e :: es) [] cpos) (tBM X.K T r to t) := by
  simp only [noStars, Bool.and_eq_true] at hs
  refine pe_bm pa slot hty hm ho ha (base_of h0) ?_ hline (starEach_of hs.1) (anyStar_of hs.2)
  cases es with
  | nil => rw [starEach_of hs.1]; rfl
  | cons e2 es =>
    cases es with
    | nil =>
      simp only [noStars, Bool.and_eq_true] at hs
      rw [starEach_of hs.1, starEach_of hs.2.1]; rfl
    | cons e3 es => simp only [List.length_cons] at hl; omega
/-- a method that changes nothing, with arguments -/
def eMP (T id : String) (name : Str) (kd : Pv.T → Bool) (tk : ∀ (K : PySem.W.Frag) H t v f, kd t = true → Rep K H t v f → tyV K T v H) (pa : PlainAttrs T) (slot : Slot T name id) (hty : typeOf (.builtin id) = pure (.type "method_descriptor"))
    (o : Ex) (a : Xs) (f : Rho → List O → Option Pv.T) (hr : ∀ X : Cx, X.A.units + 100 < cLine → ∃ r, MtR X id r ∧ OpOkL X.K f (rm r)) : Ex where
  sem := opSem (kindSem kd o.sem :: a.sems) f
  m := methM name o a
  pre := fun Γ k => o.pre Γ k ∧ a.pre Γ k
  snd := fun {X xi N sc lvl cm W e} g p h => by
    unfold methM at h
    split at h
    · simp only [Bool.and_eq_true, decide_eq_true_eq] at h
      obtain ⟨rfl, h0, h1, h2, h3, h4, h5⟩ := h
      obtain ⟨r, hr, ok⟩ := hr X g.un
      exact PE.to (pe_meth1 pa slot hty hr (o.snd g p.1 h2) (a.snd g p.2 h3) h0 h1 h4 h5) fun σ H Q hq => kind_to (tk X.K) (op_to ok hq)
    · cases h
/-- a method that changes its list, with arguments -/
def eME (T id : String) (name : Str) (kd : Pv.T → Bool) (tk : ∀ (K : PySem.W.Frag) H t v f, kd t = true → Rep K H t v f → tyV K T v H) (pa : PlainAttrs T) (slot : Slot T name id) (hty : typeOf (.builtin id) = pure (.type "method_descriptor"))
    (o : Ex) (a : Xs) (n : Nat) (φ : List Pv.T → FR) (hr : ∀ (X : Cx) (xi : XI), ∃ r, MtR X id r ∧ ∀ vs H Q E, spF X.K xi n φ vs H Q E → rm r vs H Q) : Ex where
  sem := effSem n (kindSem kd o.sem :: a.sems) φ
  m := methM name o a
  pre := fun Γ k => o.pre Γ k ∧ a.pre Γ k
  snd := fun {X xi N sc lvl cm W e} g p h => by
    unfold methM at h
    split at h
    · simp only [Bool.and_eq_true, decide_eq_true_eq] at h
      obtain ⟨rfl, h0, h1, h2, h3, h4, h5⟩ := h
      obtain ⟨r, hm, ok⟩ := hr X xi
      exact PE.to (pe_meth1 pa slot hty hm (o.snd g p.1 h2) (a.snd g p.2 h3) h0 h1 h4 h5) fun σ H Q hq => kind_to (tk X.K) (eff_to (r := fun σ vs H Q => rm r vs H Q) (fun vs H Q z => ok vs H Q _ z) hq)
    · cases h
/-- .. without arguments -/
def eME0 (T id : String) (name : Str) (kd : Pv.T → Bool) (tk : ∀ (K : PySem.W.Frag) H t v f, kd t = true → Rep K H t v f → tyV K T v H) (pa : PlainAttrs T) (slot : Slot T name id) (hty : typeOf (.builtin id) = pure (.type "method_descriptor"))
    (o : Ex) (φ : List Pv.T → FR) (hr : ∀ (X : Cx) (xi : XI), ∃ r, MtR X id r ∧ ∀ vs H Q E, spF X.K xi 1 φ vs H Q E → rm r vs H Q) : Ex where
  sem := effSem 1 [kindSem kd o.sem] φ
  m := fun N sc cm e => match e with
    | .Call (.Attribute x y apos) [] [] cpos => decide (y = name) && (notCall0 x && ((apos.endLine == cpos.line) && o.m N sc cm x))
    | _ => false
  pre := o.pre
  snd := fun {X xi N sc lvl cm W e} g p h => by
    split at h
    · simp only [Bool.and_eq_true, decide_eq_true_eq] at h
      obtain ⟨rfl, h0, h1, h2⟩ := h
      obtain ⟨r, hm, ok⟩ := hr X xi
      exact PE.to (pe_bm0 pa slot hty hm (o.snd g p h2) (base_of h0) h1) fun σ H Q hq => kind_to (tk X.K) (eff_to (r := fun σ vs H Q => rm r vs H Q) (fun vs H Q z => ok vs H Q _ z) hq)
    · cases h

/-! ### the methods of lists -/
section
variable {K : PySem.W.Frag} {H : Hp} {a : Addr} {vs : List V} {o : HO}
theorem upd_keep : Keep (· = a) H (upd H a o) := fun b u e n => by rw [upd_ne n]; exact e
theorem lists_one (h : H a = some (.lst vs)) : Lists (· = a) H := fun b e => ⟨vs, by rw [e]; exact h⟩
end
def appendF : List T → FR
  | [.lst ts, t] => if ts.length < sizeLine then .ok .non [some (.lst (ts ++ [t])), none] else .stuck
  | _ => .stuck
def popF : List T → FR
  | [.lst ts] => match ts.getLast? with
    | some t => .ok t [some (.lst ts.dropLast)]
    | none => .stuck
  | _ => .stuck
def popAtF : List T → FR
  | [.lst ts, .int i] => match ixN ts.length i with
    | some k => match ts[k]? with
      | some t => .ok t [some (.lst (ts.eraseIdx k)), some (.int i)]
      | none => .stuck
    | none => .stuck
  | _ => .stuck
def extendF : List T → FR
  | [.lst ts, .lst us] => if ts.length + us.length ≤ sizeLine then .ok .non [some (.lst (ts ++ us)), none] else .stuck
  | _ => .stuck
theorem env2 {K : PySem.W.Frag} {H : Hp} {s t : T} {x y : V} {fp : Fp} (e : Env K [some s, some t] fp [some x, some y] H) : Rep K H s x (fp 0) ∧ Rep K H t y (fp 1) ∧ (fp 0).Nodup ∧ (fp 1).Nodup ∧ ∀ a ∈ fp 0, a ∉ fp 1 := by
  obtain ⟨v, hv, r⟩ := e.rep 0 s rfl
  obtain ⟨w, hw, q⟩ := e.rep 1 t rfl
  have e1 : x = v := by simpa using hv
  have e2 : y = w := by simpa using hw
  subst e1 e2
  exact ⟨r, q, e.nd 0, e.nd 1, fun a h1 h2 => by have := e.dj 0 1 a h1 h2; omega⟩
theorem env1 {K : PySem.W.Frag} {H : Hp} {s : T} {x : V} {fp : Fp} (e : Env K [some s] fp [some x] H) : Rep K H s x (fp 0) ∧ (fp 0).Nodup := by
  obtain ⟨v, hv, r⟩ := e.rep 0 s rfl
  have e1 : x = v := by simpa using hv
  subst e1
  exact ⟨r, e.nd 0⟩
/-- one or two arguments behind: the list at a has changed -/
def fp1 (g : List Addr) : Fp
  | 0 => g
  | _ => []
theorem mkEnv1 {K : PySem.W.Frag} {H : Hp} {s : T} {x : V} {g : List Addr} {ρ : Rho} {σ : L2.St} (r : Rep K H s x g) (nd : g.Nodup) (hl : σ.length = ρ.length) (im : ∀ (i : Nat) (t : T), ρ[i]? = some (some t) → ∃ v, σ[i]? = some (some v) ∧ Rep K H t v []) : Env K (some s :: ρ) (fp1 g) (some x :: σ) H := by
  refine ⟨by simp [hl], fun i t h => ?_, fun i h => ?_, fun i => ?_, fun i j a h1 h2 => ?_⟩
  · cases i with
    | zero => have : s = t := by simpa using h
              subst this; exact ⟨x, rfl, r⟩
    | succ i =>
      obtain ⟨v, hv, q⟩ := im i t (by simpa using h)
      exact ⟨v, by simpa using hv, q⟩
  · cases i with
    | zero => exact absurd rfl (h s)
    | succ i => rfl
  · cases i with
    | zero => exact nd
    | succ i => exact .nil
  · cases i with
    | succ i => cases h1
    | zero =>
      cases j with
      | succ j => cases h2
      | zero => rfl
theorem in1 {g : List Addr} {a : Addr} (h : In (fp1 g) a) : a ∈ g := by
  obtain ⟨i, h⟩ := h
  cases i with
  | zero => exact h
  | succ i => cases h
theorem reps_last {K : PySem.W.Frag} {H : Hp} : ∀ {ts : List T} {vs : List V} {f : List Addr} {t : T}, Reps K H ts vs f → ts.getLast? = some t → ∃ v f1 f2, vs[vs.length - 1]? = some v ∧ f = f1 ++ f2 ∧ Rep K H t v f2 ∧ Reps K H ts.dropLast vs.dropLast f1
  | [], _, _, _, _, h => by simp at h
  | [s], _, _, t, r, h => by
    obtain ⟨v, ws, f1, f2, rfl, rfl, h1, rfl, rfl⟩ := r
    have e : s = t := by simpa using h
    subst e
    exact ⟨v, [], f1, rfl, by simp, h1, rfl, rfl⟩
  | s :: u :: ts, _, _, t, r, h => by
    obtain ⟨v, ws, f1, f2, rfl, rfl, h1, h2⟩ := r
    obtain ⟨w, g1, g2, a, rfl, c, d⟩ := reps_last (ts := u :: ts) h2 (by simpa using h)
    have hl : ws.length = ts.length + 1 := by simpa using h2.len
    cases ws with
    | nil => simp at hl
    | cons w0 ws =>
      refine ⟨w, f1 ++ g1, g2, by simpa using a, by simp, c, ?_⟩
      exact ⟨v, (w0 :: ws).dropLast, f1, g1, rfl, rfl, h1, by simpa using d⟩
theorem reps_erase {K : PySem.W.Frag} {H : Hp} {ts : List T} {vs : List V} {f : List Addr} {k : Nat} {t : T} (r : Reps K H ts vs f) (h : ts[k]? = some t) :
    ∃ v f1 g f2, vs[k]? = some v ∧ f = f1 ++ g ++ f2 ∧ Rep K H t v g ∧ Reps K H (ts.eraseIdx k) (vs.eraseIdx k) (f1 ++ f2) := by
  obtain ⟨v, f1, g, f2, a, b, c, d1, d2⟩ := Reps.get r h
  refine ⟨v, f1, g, f2, a, b, c, ?_⟩
  rw [List.eraseIdx_eq_take_drop_succ, List.eraseIdx_eq_take_drop_succ]
  exact Reps.append d1 d2
theorem append_ok (X : Cx) (xi : XI) : ∃ r, MtR X "list.append" r ∧ ∀ vs H Q E, spF X.K xi 2 appendF vs H Q E → rm r vs H Q := by
  refine ⟨_, mt_append, fun vs H Q E h => ?_⟩
  obtain ⟨ts, fp, hl, e, h⟩ := h
  rcases ts with _ | ⟨s, _ | ⟨t, _ | ⟨u, ts⟩⟩⟩ <;> simp at hl
  have hv : vs.length = 2 := by simpa using e.len
  rcases vs with _ | ⟨x, _ | ⟨y, _ | ⟨z, vs⟩⟩⟩ <;> simp at hv
  obtain ⟨r1, r2, n1, n2, d⟩ := env2 e
  cases s <;> first | exact (show False from h).elim | skip
  rename_i us
  simp only [appendF] at h
  by_cases c : us.length < sizeLine
  · rw [if_pos c] at h
    obtain ⟨a, ws, g, rfl, ef, ha, rs⟩ := r1
    rw [ef] at n1 d
    have na := List.nodup_cons.mp n1
    have k1 : ∀ b ∈ g, ¬ b = a := fun b hb z => na.1 (z ▸ hb)
    have k2 : ∀ b ∈ fp 1, ¬ b = a := fun b hb z => d a List.mem_cons_self (z ▸ hb)
    refine ⟨a, ws, y, rfl, rfl, ha, by rw [rs.len]; exact c, ?_⟩
    have kp : Keep (· = a) H (upd H a (.lst (ws ++ [y]))) := upd_keep
    have lo := lists_one ha
    have R : Rep X.K (upd H a (.lst (ws ++ [y]))) (.lst (us ++ [t])) (.ref a) (a :: (g ++ fp 1)) := ⟨a, ws ++ [y], g ++ fp 1, rfl, rfl, upd_same, Reps.append (rs.keep kp lo k1) (Reps.one (r2.keep kp lo k2))⟩
    have sub : ∀ b, b ∈ a :: (g ++ fp 1) → In fp b := fun b hb => by
      rcases List.mem_cons.mp hb with rfl | hb
      · exact ⟨0, by rw [ef]; exact List.mem_cons_self⟩
      · rcases List.mem_append.mp hb with hb | hb
        · exact ⟨0, by rw [ef]; exact List.mem_cons_of_mem _ hb⟩
        · exact ⟨1, hb⟩
    have nd : (a :: (g ++ fp 1)).Nodup := List.nodup_cons.mpr ⟨fun z => by
      rcases List.mem_append.mp z with z | z
      · exact na.1 z
      · exact d a List.mem_cons_self z, List.nodup_append.mpr ⟨na.2, n2, fun b hb c hc z => d b (List.mem_cons_of_mem _ hb) (z ▸ hc)⟩⟩
    refine h .non _ (fp1 (a :: (g ++ fp 1))) [] (mkEnv1 R nd rfl fun i t hi => ?_) ⟨fun b u hb hn => by rw [upd_ne (fun z => hn (by rw [z]; exact ⟨0, by rw [ef]; exact List.mem_cons_self⟩))]; exact hb, fun b hb => .inl ?_, .nil, fun _ hb => by cases hb⟩ ⟨rfl, rfl⟩
    · cases i with
      | zero => simp at hi
      | succ i => simp at hi
    · rcases hb with hb | hb
      · exact sub b (in1 hb)
      · cases hb
  · rw [if_neg c] at h; exact h.elim
theorem pop_ok (X : Cx) (xi : XI) : ∃ r, MtR X "list.pop" r ∧ ∀ vs H Q E, spF X.K xi 1 popF vs H Q E → rm r vs H Q := by
  refine ⟨_, mt_pop, fun vs H Q E h => ?_⟩
  obtain ⟨ts, fp, hl, e, h⟩ := h
  rcases ts with _ | ⟨s, _ | ⟨t, ts⟩⟩ <;> simp at hl
  have hv : vs.length = 1 := by simpa using e.len
  rcases vs with _ | ⟨x, _ | ⟨y, vs⟩⟩ <;> simp at hv
  obtain ⟨r1, n1⟩ := env1 e
  cases s <;> first | exact (show False from h).elim | skip
  rename_i us
  simp only [popF] at h
  cases hg : us.getLast? with
  | none => rw [hg] at h; exact h.elim
  | some t =>
    rw [hg] at h
    obtain ⟨a, ws, g, rfl, ef, ha, rs⟩ := r1
    rw [ef] at n1
    have na := List.nodup_cons.mp n1
    obtain ⟨v, f1, f2, hv1, rfl, rt, rd⟩ := reps_last rs hg
    have n2 := List.nodup_append.mp na.2
    refine ⟨a, ws, v, rfl, rfl, ha, hv1, ?_⟩
    have kp : Keep (· = a) H (upd H a (.lst ws.dropLast)) := upd_keep
    have lo := lists_one ha
    have R : Rep X.K (upd H a (.lst ws.dropLast)) (.lst us.dropLast) (.ref a) (a :: f1) := ⟨a, _, f1, rfl, rfl, upd_same, rd.keep kp lo fun b hb z => na.1 (z ▸ List.mem_append_left _ hb)⟩
    have sub : ∀ b, b ∈ a :: (f1 ++ f2) → In fp b := fun b hb => ⟨0, by rw [ef]; exact hb⟩
    refine h v _ (fp1 (a :: f1)) f2 (mkEnv1 R (List.nodup_cons.mpr ⟨fun z => na.1 (List.mem_append_left _ z), n2.1⟩) rfl fun i t hi => by simp at hi)
      ⟨fun b u hb hn => by rw [upd_ne (fun z => hn (by rw [z]; exact ⟨0, by rw [ef]; exact List.mem_cons_self⟩))]; exact hb, fun b hb => .inl ?_, n2.2.1, fun b hb hi => ?_⟩ (rt.keep kp lo fun b hb z => na.1 (z ▸ List.mem_append_right _ hb))
    · rcases hb with hb | hb
      · rcases List.mem_cons.mp (in1 hb) with rfl | z
        · exact sub b List.mem_cons_self
        · exact sub b (by simp [z])
      · exact sub b (by simp [hb])
    · rcases List.mem_cons.mp (in1 hi) with rfl | z
      · exact na.1 (List.mem_append_right _ hb)
      · exact n2.2.2 b z b hb rfl
theorem ixN_bounds {n : Nat} {i : Int} {k : Nat} (hn : n ≤ sizeLine) (h : ixN n i = some k) : -(2 ^ 63) ≤ i ∧ i < 2 ^ 63 ∧ seqIndex? i n = some k ∧ k < n := by
  obtain ⟨h1, h2, h3, h4⟩ := ixN_seq h
  rw [sizeLine_eq] at hn
  exact ⟨by omega, by omega, h1, h2⟩
theorem popAt_ok (X : Cx) (xi : XI) : ∃ r, MtR X "list.pop" r ∧ ∀ vs H Q E, spF X.K xi 2 (fun l => match l with | [.lst ts, t] => if ts.length ≤ sizeLine then popAtF [.lst ts, t] else .stuck | _ => .stuck) vs H Q E → rm r vs H Q := by
  refine ⟨_, mt_popAt, fun vs H Q E h => ?_⟩
  obtain ⟨ts, fp, hl, e, h⟩ := h
  rcases ts with _ | ⟨s, _ | ⟨t, _ | ⟨u, ts⟩⟩⟩ <;> simp at hl
  have hv : vs.length = 2 := by simpa using e.len
  rcases vs with _ | ⟨x, _ | ⟨y, _ | ⟨z, vs⟩⟩⟩ <;> simp at hv
  obtain ⟨r1, r2, n1, n2, d⟩ := env2 e
  cases s <;> first | exact (show False from h).elim | skip
  rename_i us
  simp only at h
  by_cases cl : us.length ≤ sizeLine
  case neg => rw [if_neg cl] at h; exact h.elim
  rw [if_pos cl] at h
  cases t <;> first | exact (show False from h).elim | skip
  rename_i i
  simp only [popAtF] at h
  cases hk : ixN us.length i with
  | none => rw [hk] at h; exact h.elim
  | some k =>
    rw [hk] at h
    simp only at h
    cases hg : us[k]? with
    | none => rw [hg] at h; exact h.elim
    | some t =>
      rw [hg] at h
      obtain ⟨rfl, _⟩ := r2
      obtain ⟨a, ws, g, rfl, ef, ha, rs⟩ := r1
      rw [ef] at n1
      have na := List.nodup_cons.mp n1
      obtain ⟨v, f1, g2, f2, hv1, rfl, rt, rd⟩ := reps_erase rs hg
      have n2 := List.nodup_append.mp na.2
      have n3 := List.nodup_append.mp n2.1
      obtain ⟨b1, b2, b3, b4⟩ := ixN_bounds cl hk
      refine ⟨a, ws, i, k, v, rfl, rfl, ha, b1, b2, by rw [rs.len]; exact b3, hv1, ?_⟩
      have kp : Keep (· = a) H (upd H a (.lst (ws.eraseIdx k))) := upd_keep
      have lo := lists_one ha
      have in12 : ∀ b ∈ f1 ++ f2, b ∈ f1 ++ g2 ++ f2 := fun b hb => by
        rcases List.mem_append.mp hb with z | z <;> simp [z]
      have R : Rep X.K (upd H a (.lst (ws.eraseIdx k))) (.lst (us.eraseIdx k)) (.ref a) (a :: (f1 ++ f2)) := ⟨a, _, _, rfl, rfl, upd_same, rd.keep kp lo fun b hb z => na.1 (z ▸ in12 b hb)⟩
      have sub : ∀ b, b ∈ a :: (f1 ++ g2 ++ f2) → In fp b := fun b hb => ⟨0, by rw [ef]; exact hb⟩
      have nd : (a :: (f1 ++ f2)).Nodup := List.nodup_cons.mpr ⟨fun z => na.1 (in12 a z), List.nodup_append.mpr ⟨n3.1, n2.2.1, fun b hb c hc => n2.2.2 b (List.mem_append_left _ hb) c hc⟩⟩
      refine h v _ (fp1 (a :: (f1 ++ f2))) g2 (mkEnv1 R nd rfl fun j t hj => ?_)
        ⟨fun b u hb hn => by rw [upd_ne (fun z => hn (by rw [z]; exact ⟨0, by rw [ef]; exact List.mem_cons_self⟩))]; exact hb, fun b hb => .inl ?_, n3.2.1, fun b hb hi => ?_⟩ (rt.keep kp lo fun b hb z => na.1 (z ▸ by simp [hb]))
      · cases j with
        | zero =>
          have : V.int i = V.int i := rfl
          have et : t = .int i := by simpa using hj.symm
          subst et
          exact ⟨.int i, rfl, rfl, rfl⟩
        | succ j => simp at hj
      · rcases hb with hb | hb
        · rcases List.mem_cons.mp (in1 hb) with rfl | z
          · exact sub b List.mem_cons_self
          · exact sub b (List.mem_cons_of_mem _ (in12 b z))
        · exact sub b (by simp [hb])
      · rcases List.mem_cons.mp (in1 hi) with rfl | z
        · exact na.1 (by simp [hb])
        · rcases List.mem_append.mp z with z | z
          · exact n3.2.2 b z b hb rfl
          · exact n2.2.2 b (List.mem_append_right _ hb) b z rfl
theorem extend_ok (X : Cx) (xi : XI) : ∃ r, MtR X "list.extend" r ∧ ∀ vs H Q E, spF X.K xi 2 extendF vs H Q E → rm r vs H Q := by
  refine ⟨_, mt_extend, fun vs H Q E h => ?_⟩
  obtain ⟨ts, fp, hl, e, h⟩ := h
  rcases ts with _ | ⟨s, _ | ⟨t, _ | ⟨u, ts⟩⟩⟩ <;> simp at hl
  have hv : vs.length = 2 := by simpa using e.len
  rcases vs with _ | ⟨x, _ | ⟨y, _ | ⟨z, vs⟩⟩⟩ <;> simp at hv
  obtain ⟨r1, r2, n1, n2, d⟩ := env2 e
  cases s <;> first | exact (show False from h).elim | skip
  rename_i us
  cases t <;> first | exact (show False from h).elim | skip
  rename_i ws'
  simp only [extendF] at h
  by_cases c : us.length + ws'.length ≤ sizeLine
  · rw [if_pos c] at h
    obtain ⟨a, ws, g, rfl, ef, ha, rs⟩ := r1
    obtain ⟨b, zs, g', rfl, ef', hb, rs'⟩ := r2
    rw [ef] at n1 d
    rw [ef'] at n2 d
    have na := List.nodup_cons.mp n1
    have nb := List.nodup_cons.mp n2
    have k1 : ∀ c ∈ g, ¬ c = a := fun b hb z => na.1 (z ▸ hb)
    have k2 : ∀ c ∈ g', ¬ c = a := fun c hc z => d a List.mem_cons_self (z ▸ List.mem_cons_of_mem _ hc)
    refine ⟨a, b, ws, zs, rfl, rfl, ha, hb, by rw [rs.len, rs'.len]; exact c, ?_⟩
    have kp : Keep (· = a) H (upd H a (.lst (ws ++ zs))) := upd_keep
    have lo := lists_one ha
    have R : Rep X.K (upd H a (.lst (ws ++ zs))) (.lst (us ++ ws')) (.ref a) (a :: (g ++ g')) := ⟨a, ws ++ zs, g ++ g', rfl, rfl, upd_same, Reps.append (rs.keep kp lo k1) (rs'.keep kp lo k2)⟩
    have sub : ∀ c, c ∈ a :: (g ++ g') → In fp c := fun c hc => by
      rcases List.mem_cons.mp hc with rfl | hc
      · exact ⟨0, by rw [ef]; exact List.mem_cons_self⟩
      · rcases List.mem_append.mp hc with hc | hc
        · exact ⟨0, by rw [ef]; exact List.mem_cons_of_mem _ hc⟩
        · exact ⟨1, by rw [ef']; exact List.mem_cons_of_mem _ hc⟩
    have nd : (a :: (g ++ g')).Nodup := List.nodup_cons.mpr ⟨fun z => by
      rcases List.mem_append.mp z with z | z
      · exact na.1 z
      · exact d a List.mem_cons_self (List.mem_cons_of_mem _ z), List.nodup_append.mpr ⟨na.2, nb.2, fun b hb c hc z => d b (List.mem_cons_of_mem _ hb) (z ▸ List.mem_cons_of_mem _ hc)⟩⟩
    refine h .non _ (fp1 (a :: (g ++ g'))) [] (mkEnv1 R nd rfl fun i t hi => ?_) ⟨fun b u hb hn => by rw [upd_ne (fun z => hn (by rw [z]; exact ⟨0, by rw [ef]; exact List.mem_cons_self⟩))]; exact hb, fun b hb => .inl ?_, .nil, fun _ hb => by cases hb⟩ ⟨rfl, rfl⟩
    · cases i with
      | zero => simp at hi
      | succ i => simp at hi
    · rcases hb with hb | hb
      · exact sub b (in1 hb)
      · cases hb
  · rw [if_neg c] at h; exact h.elim
def popAtF' : List T → FR := fun l => match l with
  | [.lst ts, t] => if ts.length ≤ sizeLine then popAtF [.lst ts, t] else .stuck
  | _ => .stuck
def eAppend (o a : Ex) : Ex := eME "list" "list.append" "append" isLst (fun _ => ty_lst) PySem.F.plainAttrs_list PySem.F.slot_list_append PySem.F.type_list_append o (xs [a]) 2 appendF append_ok
def ePop (o : Ex) : Ex := eME0 "list" "list.pop" "pop" isLst (fun _ => ty_lst) PySem.F.plainAttrs_list PySem.F.slot_list_pop PySem.F.type_list_pop o popF pop_ok
def ePopAt (o a : Ex) : Ex := eME "list" "list.pop" "pop" isLst (fun _ => ty_lst) PySem.F.plainAttrs_list PySem.F.slot_list_pop PySem.F.type_list_pop o (xs [a]) 2 popAtF' popAt_ok
def eExtend (o a : Ex) : Ex := eME "list" "list.extend" "extend" isLst (fun _ => ty_lst) PySem.F.plainAttrs_list PySem.F.slot_list_extend PySem.F.type_list_extend o (xs [a]) 2 extendF extend_ok

/-! ### methods of texts -/
def strsOf : List T → Option (List Str)
  | [] => some []
  | .str s :: ts => match strsOf ts with
    | some l => some (s :: l)
    | none => none
  | _ => none
theorem strs_reps {K : PySem.W.Frag} {H : Hp} : ∀ {ts : List T} {ys : List Str} {vs : List V} {f : List Addr}, strsOf ts = some ys → Reps K H ts vs f → vs = ys.map V.str
  | [], _, _, _, h, r => by cases h; exact r.1
  | t :: ts, ys, _, _, h, r => by
    cases t <;> first | (simp [strsOf] at h; done) | skip
    rename_i s
    simp only [strsOf] at h
    cases e : strsOf ts with
    | none => rw [e] at h; cases h
    | some l =>
      rw [e] at h
      cases h
      obtain ⟨v, ws, f1, f2, rfl, rfl, h1, h2⟩ := r
      rw [h1.1, strs_reps e h2]; rfl
def joinL (a : Str) (ts : List T) : Option T := match strsOf ts with
  | some ys => if (ys.map (·.length)).sum + ys.length * a.length ≤ 16777216 then some (.str (Txt.join a ys)) else none
  | none => none
def joinT : T → T → Option T
  | .str a, .lst ts => joinL a ts
  | .str a, .tup ts => joinL a ts
  | _, _ => none
def eJoin (o a : Ex) : Ex := eMP "str" "str.join" "join" isStr (fun _ => ty_str) PySem.F.plainAttrs_str PySem.F.slot_str_join PySem.F.type_str_join o (xs [a]) (f2 joinT) fun X hu => ⟨_, mt_join, ok2 fun H s t u x y fx fy hg rx ry Q p => by
  have go : ∀ {a : Str} {ts : List T} {q : Addr} {vs : List V} {f : List Addr}, joinL a ts = some u → Reps X.K H ts vs f → (SqL X.K H q vs ∨ SqT X.K H q vs) → ∃ a' p, ∃ ys : List Str, V.str a = .str a' ∧ [V.ref q] = [.ref p] ∧ (SqL X.K H p (ys.map V.str) ∨ SqT X.K H p (ys.map V.str)) ∧
      (ys.map (·.length)).sum + ys.length * a'.length ≤ 16777216 ∧ Q (.str (Txt.join a' ys)) H := fun {a ts q vs f} hj r sq => by
    unfold joinL at hj
    split at hj
    · rename_i ys e
      split at hj
      · rename_i c
        cases hj
        have ev := strs_reps e r
        subst ev
        exact ⟨a, q, ys, rfl, rfl, sq, c, p.v ⟨rfl, rfl⟩⟩
      · cases hj
    · cases hj
  unfold joinT at hg
  split at hg
  · obtain ⟨rfl, _⟩ := rx
    obtain ⟨q, vs, g, rfl, _, sq, r⟩ := ry
    exact go hg r (.inl (SqL.of sq))
  · obtain ⟨rfl, _⟩ := rx
    obtain ⟨q, vs, rfl, sq, r⟩ := ry
    exact go hg r (.inr sq)
  · cases hg⟩
def findT : T → T → T → Option T
  | .str a, .str b, .int i => some (.int (Txt.find3 a b i))
  | _, _, _ => none
def eFind3 (o a b : Ex) : Ex := eMP "str" "str.find" "find" isStr (fun _ => ty_str) PySem.F.plainAttrs_str PySem.F.slot_str_find PySem.F.type_str_find o (xs [a, b]) (f3 findT) fun X hu => ⟨_, mt_find3, ok3 fun H s t u z x y w fx fy fw hg rx ry rw' Q p => by
  unfold findT at hg
  split at hg <;> cases hg
  obtain ⟨rfl, _⟩ := rx
  obtain ⟨rfl, _⟩ := ry
  obtain ⟨rfl, _⟩ := rw'
  exact ⟨_, _, _, rfl, rfl, p.v ⟨rfl, rfl⟩⟩⟩
end Pv
set_option Elab.async false
set_option linter.all false
set_option maxRecDepth 100000
set_option maxHeartbeats 2000000
/-! Pv part I: statements. -/
namespace Pv
open PySem L2

/-- for statements: what loops and stores ask besides -/
structure Gs (X : Cx) (xi : XI) (N : List Str) (sc : Scope) (lvl : Nat) (cm : Bool) (W : WX) : Prop extends Gd X xi N sc lvl cm W where
  fnok : ∀ x, L2.Loc sc x → X.fn x = true ∨ sc.names.lookup x = some .local
  hpo : PassesOwn (model X.prog X.w) X.A X.env X.xe
  hst : X.stack = X.env :: X.outer
  hfr : X.env.frame = some X.env.locals

def Agree (asg : List Nat) (σ σ' : L2.St) : Prop := ∀ i, i ∉ asg → σ'[i]? = σ[i]?
theorem Agree.refl {asg : List Nat} {σ : L2.St} : Agree asg σ σ := fun _ _ => rfl
theorem Agree.trans {asg : List Nat} {σ σ1 σ2 : L2.St} (a : Agree asg σ σ1) (b : Agree asg σ1 σ2) : Agree asg σ σ2 := fun i h => (b i h).trans (a i h)
theorem Agree.more {asg asg' : List Nat} {σ σ' : L2.St} (a : Agree asg σ σ') (h : ∀ i ∈ asg, i ∈ asg') : Agree asg' σ σ' := fun i n => a i fun z => n (h i z)
def postS (K : PySem.W.Frag) (xi : XI) (W : WX) (asg : List Nat) (σ : L2.St) (fp : Fp) (H : Hp) (D : Ends) : RS → Prop
  | .nx ρ' => ∀ σ' H' fp', Env K ρ' fp' σ' H' → Step fp H fp' [] H' → Agree asg σ σ' → D.nx σ' H'
  | .ret t ρ' => ∀ v σ' H' fp' fo, Env K ρ' fp' σ' H' → Step fp H fp' fo H' → Agree asg σ σ' → Rep K H' t v fo → D.rt v H'
  | .bk ρ' => ∀ σ' H' fp', Env K ρ' fp' σ' H' → Step fp H fp' [] H' → Agree asg σ σ' → D.bk σ' H'
  | .ct ρ' => ∀ σ' H' fp', Env K ρ' fp' σ' H' → Step fp H fp' [] H' → Agree asg σ σ' → D.ct σ' H'
  | .ex c t ρ' => ∀ d σ' H' fp', Env K ρ' fp' σ' H' → Step fp H fp' [] H' → Agree asg σ σ' → XRep K xi H' d c t → W (.ref (xi.xc c)) (some d) σ' H'
  | .stuck => False
def tS (K : PySem.W.Frag) (xi : XI) (W : WX) (asg : List Nat) (sem : Rho → RS) : TS := fun D σ H => ∃ ρ fp, Env K ρ fp σ H ∧ postS K xi W asg σ fp H D (sem ρ)
structure Sx where
  sem : Rho → RS
  asg : List Nat
  m : List Str → Scope → Bool → Stmt → Bool
  pre : Gm → Nat → Prop
  snd : ∀ {X : Cx} {xi : XI} {N : List Str} {sc : Scope} {lvl : Nat} {cm : Bool} {W : WX} {x : Stmt}, Gs X xi N sc lvl cm W → pre (gm X xi) lvl → m N sc cm x = true → PS X x (tS X.K xi W asg sem)
structure Bl where
  sem : Rho → RS
  asg : List Nat
  m : List Str → Scope → Bool → List Stmt → Bool
  pre : Gm → Nat → Prop
  snd : ∀ {X : Cx} {xi : XI} {N : List Str} {sc : Scope} {lvl : Nat} {cm : Bool} {W : WX} {x : List Stmt}, Gs X xi N sc lvl cm W → pre (gm X xi) lvl → m N sc cm x = true → PSs X x (tS X.K xi W asg sem)

section
variable {K : PySem.W.Frag} {xi : XI} {W : WX} {asg asg' : List Nat} {σ σ1 : L2.St} {fp fp1 : Fp} {H H1 : Hp} {D : Ends} {r : RS}
/-- from a state on the way -/
theorem postS.from (s1 : Step fp H fp1 [] H1) (a1 : Agree asg σ σ1) (h : postS K xi W asg σ fp H D r) : postS K xi W asg σ1 fp1 H1 D r := by
  cases r with
  | stuck => exact h
  | nx ρ' => exact fun σ' H' fp' e s a => h σ' H' fp' e (s1.trans0 s) (a1.trans a)
  | ret t ρ' => exact fun v σ' H' fp' fo e s a => h v σ' H' fp' fo e (s1.trans0 s) (a1.trans a)
  | bk ρ' => exact fun σ' H' fp' e s a => h σ' H' fp' e (s1.trans0 s) (a1.trans a)
  | ct ρ' => exact fun σ' H' fp' e s a => h σ' H' fp' e (s1.trans0 s) (a1.trans a)
  | ex c t ρ' => exact fun d σ' H' fp' e s a => h d σ' H' fp' e (s1.trans0 s) (a1.trans a)
theorem postS.less (l : ∀ i ∈ asg, i ∈ asg') (h : postS K xi W asg' σ fp H D r) : postS K xi W asg σ fp H D r := by
  cases r with
  | stuck => exact h
  | nx ρ' => exact fun σ' H' fp' e s a => h σ' H' fp' e s (a.more l)
  | ret t ρ' => exact fun v σ' H' fp' fo e s a => h v σ' H' fp' fo e s (a.more l)
  | bk ρ' => exact fun σ' H' fp' e s a => h σ' H' fp' e s (a.more l)
  | ct ρ' => exact fun σ' H' fp' e s a => h σ' H' fp' e s (a.more l)
  | ex c t ρ' => exact fun d σ' H' fp' e s a => h d σ' H' fp' e s (a.more l)
end

/-! ### blocks -/
def bNil : Bl := ⟨.nx, [], fun _ _ _ s => s.isEmpty, fun _ _ => True, fun {X xi N sc lvl cm W x} g p h => by
  cases x with
  | cons => cases h
  | nil =>
    refine PSs.to pss_nil fun D σ H hq => ?_
    obtain ⟨ρ, fp, e, hq⟩ := hq
    exact hq σ H fp e Step.refl Agree.refl⟩
def seqS (a b : Rho → RS) : Rho → RS := fun ρ => match a ρ with
  | .nx ρ1 => b ρ1
  | x => x
theorem seq_to {K : PySem.W.Frag} {xi : XI} {W : WX} {a b : Rho → RS} {as bs : List Nat} {D : Ends} {σ : L2.St} {H : Hp} (h : tS K xi W (as ++ bs) (seqS a b) D σ H) : tSeq (tS K xi W as a) (tS K xi W bs b) D σ H := by
  obtain ⟨ρ, fp, e, h⟩ := h
  refine ⟨ρ, fp, e, ?_⟩
  simp only [seqS] at h
  cases ha : a ρ with
  | nx ρ1 =>
    rw [ha] at h
    exact fun σ1 H1 fp1 e1 s1 a1 => ⟨ρ1, fp1, e1, (h.from s1 (a1.more fun i z => List.mem_append_left _ z)).less fun i z => List.mem_append_right _ z⟩
  | stuck => rw [ha] at h; exact h.elim
  | ret t ρ1 => rw [ha] at h; exact postS.less (asg' := as ++ bs) (fun i z => List.mem_append_left _ z) h
  | bk ρ1 => rw [ha] at h; exact postS.less (asg' := as ++ bs) (fun i z => List.mem_append_left _ z) h
  | ct ρ1 => rw [ha] at h; exact postS.less (asg' := as ++ bs) (fun i z => List.mem_append_left _ z) h
  | ex c t ρ1 => rw [ha] at h; exact postS.less (asg' := as ++ bs) (fun i z => List.mem_append_left _ z) h
def bCons (a : Sx) (b : Bl) : Bl where
  sem := seqS a.sem b.sem
  asg := a.asg ++ b.asg
  m := fun N sc cm s => match s with
    | x :: r => a.m N sc cm x && b.m N sc cm r
    | [] => false
  pre := fun Γ k => a.pre Γ k ∧ b.pre Γ k
  snd := fun {X xi N sc lvl cm W x} g p h => by
    cases x with
    | nil => cases h
    | cons x r =>
      simp only [Bool.and_eq_true] at h
      exact PSs.to (pss_cons (a.snd g p.1 h.1) (b.snd g p.2 h.2)) fun D σ H hq => seq_to hq
def blk (l : List Sx) : Bl := l.foldr bCons bNil

/-! ### small statements -/
def noComp : Expr → Bool
  | .ListComp _ _ _ _ => false
  | .SetComp _ _ _ _ => false
  | .DictComp _ _ _ _ _ => false
  | _ => true
theorem swaps_of {x : Expr} {t : Option Expr} {l : Nat} {env : PySem.Env} (h : noComp x = true) : swapsWith x t l env = pure false := by
  cases x <;> first | rfl | cases h
/-- an expression, its value dropped -/
def exprS (s : Rho → R) : Rho → RS := fun ρ => match s ρ with
  | .ok _ ρ' _ => .nx ρ'
  | .ex c t ρ' => .ex c t ρ'
  | .stuck => .stuck
def sExpr (a : Ex) : Sx where
  sem := exprS a.sem
  asg := []
  m := fun N sc cm s => match s with
    | .Expr x _ => noComp x && a.m N sc cm x
    | _ => false
  pre := a.pre
  snd := fun {X xi N sc lvl cm W x} g p h => by
    cases x <;> first | (cases h; done) | skip
    simp only [Bool.and_eq_true] at h
    refine PS.to (ps_expr (a.snd g.toGd p h.2) (swaps_of h.1)) fun D σ H hq => ?_
    obtain ⟨ρ, fp, e, hq⟩ := hq
    refine ⟨ρ, fp, e, ?_⟩
    simp only [exprS] at hq
    cases hs : a.sem ρ with
    | stuck => rw [hs] at hq; exact hq
    | ex c t ρ' => rw [hs] at hq; exact fun d H' fp' e' s' x => hq d σ H' fp' e' s' Agree.refl x
    | ok o ρ' τ => rw [hs] at hq; exact fun v H' fp' fo e' s' q' r' => hq σ H' fp' e' s'.drop Agree.refl
def retS (s : Rho → R) : Rho → RS := fun ρ => match s ρ with
  | .ok (.v t) ρ' _ => .ret t ρ'
  | .ok (.p i path) ρ' _ => match getO ρ' (.p i path) with
    | some t => .ret t (ρ'.set i none)
    | none => .stuck
  | .ex c t ρ' => .ex c t ρ'
  | .stuck => .stuck
/-- a slot is emptied -/
theorem Env.empty {K : PySem.W.Frag} {ρ : Rho} {fp : Fp} {σ : L2.St} {H : Hp} (e : Env K ρ fp σ H) (i : Nat) : Env K (ρ.set i none) (fun j => if j = i then [] else fp j) σ H := by
  refine ⟨by rw [List.length_set]; exact e.len, fun j s hs => ?_, fun j hj => ?_, fun j => ?_, fun j k a ha hb => ?_⟩
  · by_cases c : j = i
    · subst c
      by_cases hl : j < ρ.length
      · rw [List.getElem?_set_self hl] at hs; cases hs
      · rw [List.getElem?_eq_none (by simpa using hl)] at hs; cases hs
    · rw [List.getElem?_set_ne (Ne.symm c)] at hs
      simp only [if_neg c]
      exact e.rep j s hs
  · by_cases c : j = i
    · simp only [if_pos c]
    · simp only [if_neg c]
      exact e.emp j fun s hs => hj s (by rw [List.getElem?_set_ne (Ne.symm c)]; exact hs)
  · by_cases c : j = i
    · simp only [if_pos c]; exact .nil
    · simp only [if_neg c]; exact e.nd j
  · by_cases c : j = i
    · simp only [if_pos c] at ha; cases ha
    · by_cases d : k = i
      · simp only [if_pos d] at hb; cases hb
      · simp only [if_neg c] at ha
        simp only [if_neg d] at hb
        exact e.dj j k a ha hb
theorem in_empty {fp : Fp} {i : Nat} {a : Addr} (h : In (fun j => if j = i then [] else fp j) a) : ∃ j, j ≠ i ∧ a ∈ fp j := by
  obtain ⟨j, h⟩ := h
  by_cases c : j = i
  · simp only [if_pos c] at h; cases h
  · simp only [if_neg c] at h; exact ⟨j, c, h⟩
def sRet (a : Ex) : Sx where
  sem := retS a.sem
  asg := []
  m := fun N sc cm s => match s with
    | .Return (some x) _ => a.m N sc cm x
    | _ => false
  pre := a.pre
  snd := fun {X xi N sc lvl cm W x} g p h => by
    cases x <;> first | (cases h; done) | skip
    rename_i v _
    cases v with
    | none => cases h
    | some x =>
      refine PS.to (ps_ret (a.snd g.toGd p h)) fun D σ H hq => ?_
      obtain ⟨ρ, fp, e, hq⟩ := hq
      refine ⟨ρ, fp, e, ?_⟩
      simp only [retS] at hq
      cases hs : a.sem ρ with
      | stuck => rw [hs] at hq; exact hq
      | ex c t ρ' => rw [hs] at hq; exact fun d H' fp' e' s' x => hq d σ H' fp' e' s' Agree.refl x
      | ok o ρ' τ =>
        rw [hs] at hq
        cases o with
        | v t => exact fun v H' fp' fo e' s' q' r' => hq v σ H' fp' fo e' s' Agree.refl r'
        | p i path =>
          simp only at hq
          intro v H' fp' fo e' s' q' r'
          obtain ⟨_, u, t0, s, g', h1, h2, h3⟩ := r'
          obtain ⟨rt, rs, ea, a1, a2, ef, _⟩ := h3.use
          simp only [getO, h2, ea] at hq
          have ndi := e'.nd i
          rw [ef] at ndi
          have nd' := (List.nodup_append.mp (List.nodup_append.mp ndi).1).2.1
          have mem : ∀ a ∈ g', a ∈ fp' i := fun a h => by rw [ef]; simp [h]
          refine hq v σ H' _ g' (e'.empty i) ⟨s'.keep, fun a z => ?_, nd', fun a ha z => ?_⟩ Agree.refl rs
          · rcases z with z | z
            · obtain ⟨j, _, z⟩ := in_empty z
              exact s'.sub a (.inl ⟨j, z⟩)
            · exact s'.sub a (.inl ⟨i, mem a z⟩)
          · obtain ⟨j, c, z⟩ := in_empty z
            exact c (e'.dj j i a z (mem a ha))
def sRetN : Sx where
  sem := fun ρ => .ret .non ρ
  asg := []
  m := fun N sc cm s => match s with
    | .Return none _ => true
    | _ => false
  pre := fun _ _ => True
  snd := fun {X xi N sc lvl cm W x} g p h => by
    cases x <;> first | (cases h; done) | skip
    rename_i v _
    cases v with
    | some x => cases h
    | none =>
      refine PS.to ps_retN fun D σ H hq => ?_
      obtain ⟨ρ, fp, e, hq⟩ := hq
      exact hq .non σ H fp [] e Step.refl Agree.refl ⟨rfl, rfl⟩
def sPass : Sx where
  sem := fun ρ => .nx ρ
  asg := []
  m := fun N sc cm s => match s with
    | .Pass _ => true
    | _ => false
  pre := fun _ _ => True
  snd := fun {X xi N sc lvl cm W x} g p h => by
    cases x <;> first | (cases h; done) | skip
    refine PS.to ps_pass fun D σ H hq => ?_
    obtain ⟨ρ, fp, e, hq⟩ := hq
    exact hq σ H fp e Step.refl Agree.refl
def sBreak : Sx where
  sem := fun ρ => .bk ρ
  asg := []
  m := fun N sc cm s => match s with
    | .Break _ => true
    | _ => false
  pre := fun _ _ => True
  snd := fun {X xi N sc lvl cm W x} g p h => by
    cases x <;> first | (cases h; done) | skip
    refine PS.to ps_break fun D σ H hq => ?_
    obtain ⟨ρ, fp, e, hq⟩ := hq
    exact hq σ H fp e Step.refl Agree.refl
def sCont : Sx where
  sem := fun ρ => .ct ρ
  asg := []
  m := fun N sc cm s => match s with
    | .Continue _ => true
    | _ => false
  pre := fun _ _ => True
  snd := fun {X xi N sc lvl cm W x} g p h => by
    cases x <;> first | (cases h; done) | skip
    refine PS.to ps_continue fun D σ H hq => ?_
    obtain ⟨ρ, fp, e, hq⟩ := hq
    exact hq σ H fp e Step.refl Agree.refl
def ifS (c : Rho → RB) (a b : Rho → RS) : Rho → RS := fun ρ => match c ρ with
  | .ok k ρ1 _ => if k = true then a ρ1 else b ρ1
  | .ex x t ρ1 => .ex x t ρ1
  | .stuck => .stuck
def sIf (c : Bx) (a b : Bl) : Sx where
  sem := ifS c.sem a.sem b.sem
  asg := a.asg ++ b.asg
  m := fun N sc cm s => match s with
    | .If t x y _ => c.m N sc cm t && (a.m N sc cm x && b.m N sc cm y)
    | _ => false
  pre := fun Γ k => c.pre Γ k ∧ a.pre Γ k ∧ b.pre Γ k
  snd := fun {X xi N sc lvl cm W x} g p h => by
    cases x <;> first | (cases h; done) | skip
    simp only [Bool.and_eq_true] at h
    refine PS.to (ps_if (c.snd g.toGd p.1 h.1) (a.snd g p.2.1 h.2.1) (b.snd g p.2.2 h.2.2)) fun D σ H hq => ?_
    obtain ⟨ρ, fp, e, hq⟩ := hq
    refine ⟨ρ, fp, e, ?_⟩
    simp only [ifS] at hq
    cases hc : c.sem ρ with
    | stuck => rw [hc] at hq; exact hq
    | ex c t ρ' => rw [hc] at hq; exact fun d H' fp' e' s' x => hq d σ H' fp' e' s' Agree.refl x
    | ok k ρ1 τ =>
      rw [hc] at hq
      simp only at hq
      intro H1 fp1 e1 s1 q1
      cases k with
      | true =>
        rw [if_pos rfl] at hq ⊢
        exact ⟨ρ1, fp1, e1, (hq.from s1 Agree.refl).less fun i z => List.mem_append_left _ z⟩
      | false =>
        rw [if_neg Bool.false_ne_true] at hq ⊢
        exact ⟨ρ1, fp1, e1, (hq.from s1 Agree.refl).less fun i z => List.mem_append_right _ z⟩

/-! ### stores to names -/
theorem Env.set {K : PySem.W.Frag} {ρ : Rho} {fp : Fp} {σ : L2.St} {H : Hp} {t : T} {v : V} {fo : List Addr} (e : Env K ρ fp σ H) (i : Nat) (r : Rep K H t v fo) (nd : fo.Nodup) (d : ∀ a ∈ fo, ¬ In fp a) (hi : i < ρ.length) :
    Env K (ρ.set i (some t)) (fun j => if j = i then fo else fp j) (σ.set i (some v)) H := by
  refine ⟨by simp [e.len], fun j s hs => ?_, fun j hj => ?_, fun j => ?_, fun j k a ha hb => ?_⟩
  · by_cases c : j = i
    · subst c
      rw [List.getElem?_set_self hi] at hs
      cases hs
      exact ⟨v, List.getElem?_set_self (by rw [e.len]; exact hi), by simp only [if_pos]; exact r⟩
    · rw [List.getElem?_set_ne (Ne.symm c)] at hs
      obtain ⟨w, hw, q⟩ := e.rep j s hs
      exact ⟨w, by rw [List.getElem?_set_ne (Ne.symm c)]; exact hw, by simp only [if_neg c]; exact q⟩
  · by_cases c : j = i
    · subst c; exact absurd (List.getElem?_set_self hi) (hj t)
    · simp only [if_neg c]
      exact e.emp j fun s hs => hj s (by rw [List.getElem?_set_ne (Ne.symm c)]; exact hs)
  · by_cases c : j = i
    · simp only [if_pos c]; exact nd
    · simp only [if_neg c]; exact e.nd j
  · by_cases c : j = i
    · by_cases c' : k = i
      · rw [c, c']
      · simp only [if_pos c] at ha
        simp only [if_neg c'] at hb
        exact (d a ha ⟨k, hb⟩).elim
    · by_cases c' : k = i
      · simp only [if_neg c] at ha
        simp only [if_pos c'] at hb
        exact (d a hb ⟨j, ha⟩).elim
      · simp only [if_neg c] at ha
        simp only [if_neg c'] at hb
        exact e.dj j k a ha hb
theorem in_set {fp : Fp} {i : Nat} {fo : List Addr} {a : Addr} (h : In (fun j => if j = i then fo else fp j) a) : a ∈ fo ∨ In fp a := by
  obtain ⟨j, h⟩ := h
  by_cases c : j = i
  · simp only [if_pos c] at h; exact .inl h
  · simp only [if_neg c] at h; exact .inr ⟨j, h⟩
/-- what a target takes -/
structure Tgt where
  sem : T → Rho → Option Rho
  asg : List Nat
  m : List Str → Scope → Bool → Expr → Bool
  snd : ∀ {X : Cx} {N : List Str} {sc : Scope} {st : Bool} {x : Expr}, X.N = N → N.Nodup → X.env.scope = sc → X.calm = true → (st = false → ∀ x, L2.Loc sc x → X.fn x = true ∨ sc.names.lookup x = some .local) → m N sc st x = true →
    ∃ g, PG X x g ∧ ∀ (t : T) (v : V) (fo : List Addr) (σ : L2.St) (H : Hp) (ρ ρ' : Rho) (fp : Fp) (Q : L2.St → Hp → Prop), Env X.K ρ fp σ H → Rep X.K H t v fo → fo.Nodup → (∀ a ∈ fo, ¬ In fp a) → sem t ρ = some ρ' →
      (∀ σ' fp', Env X.K ρ' fp' σ' H → ((∀ a, In fp' a → In fp a ∨ a ∈ fo) ∧ ∀ i, i ∉ asg → fp' i = fp i) → Agree asg σ σ' → Q σ' H) → g v σ H Q
  loc : ∀ {t : T} {ρ ρ' : Rho}, sem t ρ = some ρ' → ρ'.length = ρ.length ∧ ∀ i, i ∉ asg → ρ'[i]? = ρ[i]?
def stB (N : List Str) (sc : Scope) (st : Bool) (i : Nat) (x : Str) : Bool := decide (N[i]? = some x) && (if st = true then decide (sc.names.lookup x = some .local) else locB sc x)
structure StOk (X : Cx) (i : Nat) (x : Str) : Prop where
  at_ : X.N[i]? = some x
  loc : L2.Loc X.env.scope x
  ok : X.fn x = true ∨ X.env.scope.names.lookup x = some .local
theorem st_of {X : Cx} {N : List Str} {sc : Scope} {st : Bool} {i : Nat} {x : Str} (hN : X.N = N) (hs : X.env.scope = sc) (hf : st = false → ∀ x, L2.Loc sc x → X.fn x = true ∨ sc.names.lookup x = some .local) (h : stB N sc st i x = true) : StOk X i x := by
  subst hN hs
  unfold stB at h
  simp only [Bool.and_eq_true, decide_eq_true_eq] at h
  cases st with
  | true =>
    have z : X.env.scope.names.lookup x = some .local := by simpa using h.2
    exact ⟨h.1, .inl z, .inr z⟩
  | false =>
    have z : L2.Loc X.env.scope x := loc_of (by simpa using h.2)
    exact ⟨h.1, z, hf rfl x z⟩
def gN (i : Nat) : Tgt where
  sem := fun t ρ => if i < ρ.length then some (ρ.set i (some t)) else none
  asg := [i]
  m := fun N sc st e => match e with
    | .Name x _ => stB N sc st i x
    | _ => false
  snd := fun {X N sc st x} hN nd hs hc hf h => by
    cases x <;> first | (cases h; done) | skip
    have S := st_of hN hs hf h
    refine ⟨_, pg_name (by rw [hN]; exact nd) S.at_ S.loc S.ok, fun t v fo σ H ρ ρ' fp Q e r nd' d hse k => ?_⟩
    split at hse
    · rename_i hi
      cases hse
      exact k _ _ (e.set i r nd' d hi) ⟨fun a z => (in_set z).elim .inr .inl, fun j hj => if_neg (by simpa using hj)⟩ fun j hj => List.getElem?_set_ne (by simpa using Ne.symm (by simpa using hj))
    · cases hse
  loc := fun {t ρ ρ'} h => by
    split at h
    · cases h
      exact ⟨List.length_set, fun j hj => List.getElem?_set_ne (by simpa using Ne.symm (by simpa using hj))⟩
    · cases h
/-- a, b, .. = a tuple of plain things -/
def setAll : List Nat → List T → Rho → Option Rho
  | [], [], ρ => some ρ
  | i :: is, t :: ts, ρ => if i < ρ.length then setAll is ts (ρ.set i (some t)) else none
  | _, _, _ => none
def tupB (N : List Str) (sc : Scope) (st : Bool) : List Nat → List Expr → Bool
  | [], [] => true
  | i :: is, .Name x _ :: es => stB N sc st i x && tupB N sc st is es
  | _, _ => false
theorem pgs_names {X : Cx} {N : List Str} {sc : Scope} {st : Bool} (hN : X.N = N) (nd : N.Nodup) (hs : X.env.scope = sc) (hf : st = false → ∀ x, L2.Loc sc x → X.fn x = true ∨ sc.names.lookup x = some .local) : ∀ {is : List Nat} {es : List Expr}, tupB N sc st is es = true →
    (assignEach es X.env).length = is.length ∧ (assignEach es X.env).findIdx? (·.1) = none ∧ ∃ g, PGs X es g ∧ ∀ (ts : List T) (vs : List V) (σ : L2.St) (H : Hp) (ρ ρ' : Rho) (fp : Fp) (Q : L2.St → Hp → Prop), Env X.K ρ fp σ H → Reps X.K H ts vs [] → setAll is ts ρ = some ρ' →
      (∀ σ' fp', Env X.K ρ' fp' σ' H → ((∀ a, In fp' a → In fp a) ∧ ∀ i, i ∉ is → fp' i = fp i) → Agree is σ σ' → Q σ' H) → g vs σ H Q
  | [], [], _ => ⟨rfl, rfl, _, pgs_nil, fun ts vs σ H ρ ρ' fp Q e r hse k => by
      cases ts with
      | cons => simp [setAll] at hse
      | nil =>
        cases hse
        exact ⟨r.1, k σ fp e ⟨fun _ z => z, fun _ _ => rfl⟩ Agree.refl⟩⟩
  | [], _ :: _, h => by simp [tupB] at h
  | i :: is, [], h => by simp [tupB] at h
  | i :: is, x :: es, h => by
    cases x <;> first | (simp [tupB] at h; done) | skip
    rename_i x pos
    simp only [tupB, Bool.and_eq_true] at h
    obtain ⟨h1, h2, g, hg, gk⟩ := pgs_names hN nd hs hf (is := is) (es := es) h.2
    have S := st_of hN hs hf h.1
    refine ⟨by simp [assignEach, h1], ?_, _, pgs_cons (pg_name (by rw [hN]; exact nd) S.at_ S.loc S.ok) hg, fun ts vs σ H ρ ρ' fp Q e r hse k => ?_⟩
    · show List.findIdx? (·.1) ((false, assign (.Name x pos) X.env) :: assignEach es X.env) = none
      rw [List.findIdx?_cons]
      simp [h2]
    · cases ts with
      | nil => simp [setAll] at hse
      | cons t ts =>
        obtain ⟨v, ws, f1, f2, rfl, ef, r1, r2⟩ := r
        obtain ⟨rfl, rfl⟩ : f1 = [] ∧ f2 = [] := by simpa using ef.symm
        simp only [setAll] at hse
        split at hse
        · rename_i hi
          refine ⟨v, ws, rfl, gk ts ws _ H _ ρ' _ Q (e.set i r1 .nil (fun _ z => by cases z) hi) r2 hse fun σ' fp' e' hin ag => k σ' fp' e' ⟨fun a z => ?_, fun j hj => ?_⟩ fun j hj => ?_⟩
          · rcases in_set (hin.1 a z) with z | z
            · cases z
            · exact z
          · have hj' : j ≠ i ∧ j ∉ is := by simpa using hj
            rw [hin.2 j hj'.2]
            exact if_neg hj'.1
          · have hj' : j ≠ i ∧ j ∉ is := by simpa using hj
            rw [ag j hj'.2, List.getElem?_set_ne (Ne.symm hj'.1)]
        · cases hse
theorem setAll_len : ∀ {is : List Nat} {ts : List T} {ρ ρ' : Rho}, setAll is ts ρ = some ρ' → ts.length = is.length
  | [], [], _, _, _ => rfl
  | [], _ :: _, _, _, h => by simp [setAll] at h
  | _ :: _, [], _, _, h => by simp [setAll] at h
  | i :: is, t :: ts, ρ, ρ', h => by
    simp only [setAll] at h
    split at h
    · simp [setAll_len (is := is) (ts := ts) h]
    · cases h
theorem setAll_loc : ∀ {is : List Nat} {ts : List T} {ρ ρ' : Rho}, setAll is ts ρ = some ρ' → ρ'.length = ρ.length ∧ ∀ i, i ∉ is → ρ'[i]? = ρ[i]?
  | [], [], _, _, h => by cases h; exact ⟨rfl, fun _ _ => rfl⟩
  | [], _ :: _, _, _, h => by simp [setAll] at h
  | _ :: _, [], _, _, h => by simp [setAll] at h
  | i :: is, t :: ts, ρ, ρ', h => by
    simp only [setAll] at h
    split at h
    · obtain ⟨h1, h2⟩ := setAll_loc (is := is) (ts := ts) h
      refine ⟨by rw [h1, List.length_set], fun j hj => ?_⟩
      have hj' : j ≠ i ∧ j ∉ is := by simpa using hj
      rw [h2 j hj'.2, List.getElem?_set_ne (Ne.symm hj'.1)]
    · cases h
def gT (is : List Nat) : Tgt where
  sem := fun t ρ => match t with
    | .tup ts => if T.imms ts = true then setAll is ts ρ else none
    | _ => none
  asg := is
  m := fun N sc st e => match e with
    | .Tuple es _ _ => tupB N sc st is es
    | _ => false
  snd := fun {X N sc st x} hN nd hs hc hf h => by
    cases x <;> first | (cases h; done) | skip
    obtain ⟨h1, h2, g, hg, gk⟩ := pgs_names hN nd hs hf h
    refine ⟨_, pg_tup hc hg h1 h2, fun t v fo σ H ρ ρ' fp Q e r nd' d hse k => ?_⟩
    cases t <;> first | (cases hse; done) | skip
    rename_i ts
    replace hse : (if T.imms ts = true then setAll is ts ρ else none) = some ρ' := hse
    split at hse
    · rename_i c
      obtain ⟨a, vs, rfl, sq, r⟩ := r
      have z := r.imm_nil c
      subst z
      have hl := setAll_len hse
      exact ⟨a, vs, rfl, sq, by rw [r.len, hl], gk ts vs σ H ρ ρ' fp Q e r hse fun σ' fp' e' hin ag => k σ' fp' e' ⟨fun a z => .inl (hin.1 a z), hin.2⟩ ag⟩
    · cases hse
  loc := fun {t ρ ρ'} h => by
    cases t <;> first | (cases h; done) | skip
    rename_i ts
    replace h : (if T.imms ts = true then setAll is ts ρ else none) = some ρ' := h
    split at h
    · exact setAll_loc h
    · cases h
end Pv
set_option Elab.async false
set_option linter.all false
set_option maxRecDepth 100000
set_option maxHeartbeats 2000000
/-! Pv part J: assignments, loops, comprehensions. -/
namespace Pv
open PySem L2

/-! ### target = value -/
def asgS (set : T → Rho → Option Rho) (a : Rho → R) : Rho → RS := fun ρ => match a ρ with
  | .ok (.v t) ρ' _ => match set t ρ' with
    | some ρ2 => .nx ρ2
    | none => .stuck
  | .ok _ _ _ => .stuck
  | .ex c t ρ' => .ex c t ρ'
  | .stuck => .stuck
def noSwap : Expr → Expr → Bool
  | .Tuple _ _ _, .Tuple _ _ _ => false
  | .List _ _, .Tuple _ _ _ => false
  | _, _ => true
theorem swapped_of {t x : Expr} {env : PySem.Env} (h : noSwap t x = true) : swappedStores [t] x env = pure none := by
  cases t <;> cases x <;> first | rfl | cases h
theorem assignEach_of {t : Expr} {env : PySem.Env} (h : notStar t = true) : (assignEach [t] env).map (·.2) = [assign t env] := by
  cases t <;> first | rfl | cases h
theorem asg_fin {K : PySem.W.Frag} {xi : XI} {W : WX} {asg : List Nat} {σ σ' : L2.St} {fp fp' fp2 : Fp} {H H' : Hp} {fo : List Addr} {D : Ends} {ρ2 : Rho} (hq : postS K xi W asg σ fp H D (.nx ρ2)) (s' : Step fp H fp' fo H') (e : Env K ρ2 fp2 σ' H') (hin : ∀ a, In fp2 a → In fp' a ∨ a ∈ fo)
    (ag : Agree asg σ σ') : D.nx σ' H' :=
  hq σ' H' fp2 e ⟨s'.keep, fun a z => z.elim (fun z => s'.sub a (hin a z)) (fun z => by cases z), List.nodup_nil, fun _ z => by cases z⟩ ag
def sSet (tg : Tgt) (a : Ex) : Sx where
  sem := asgS tg.sem a.sem
  asg := tg.asg
  m := fun N sc cm s => match s with
    | .Assign [t] x _ => cm && (noComp x && (noSwap t x && (notStar t && (tg.m N sc false t && a.m N sc cm x))))
    | _ => false
  pre := a.pre
  snd := fun {X xi N sc lvl cm W x} g p h => by
    split at h
    · simp only [Bool.and_eq_true] at h
      obtain ⟨hc, h1, h2, h3, h4, h5⟩ := h
      obtain ⟨gg, hg, gk⟩ := tg.snd g.hN g.nd g.hsc (g.hcm hc) (fun _ => g.fnok) h4
      refine PS.to (ps_asg (a.snd g.toGd p h5) hg (swaps_of h1) (swapped_of h2) (assignEach_of h3)) fun D σ H hq => ?_
      obtain ⟨ρ, fp, e, hq⟩ := hq
      refine ⟨ρ, fp, e, ?_⟩
      simp only [asgS] at hq
      cases hs : a.sem ρ with
      | stuck => rw [hs] at hq; exact hq
      | ex c t ρ' => rw [hs] at hq; exact fun d H' fp' e' s' x => hq d σ H' fp' e' s' Agree.refl x
      | ok o ρ' τ =>
        rw [hs] at hq
        cases o with
        | p i q => exact hq.elim
        | v t =>
          simp only at hq
          cases ht : tg.sem t ρ' with
          | none => rw [ht] at hq; exact hq.elim
          | some ρ2 =>
            rw [ht] at hq
            exact fun v H' fp' fo e' s' q' r' => gk t v fo σ H' ρ' ρ2 fp' D.nx e' r' s'.nd s'.dj ht fun σ2 fp2 e2 hin ag => asg_fin hq s' e2 hin.1 ag
    · cases h
/-- o[i] = e, o a list -/
def setF : List T → FR
  | [t, .lst ts, .int i] => match ixN ts.length i with
    | some k => .ok .non [none, some (.lst (ts.set k t)), some (.int i)]
    | none => .stuck
  | _ => .stuck
theorem reps_put {K : PySem.W.Frag} {H : Hp} {ts : List T} {vs : List V} {f : List Addr} {k : Nat} {s : T} {w : V} {g : List Addr} (r : Reps K H ts vs f) (hk : k < ts.length) (rs : Rep K H s w g) :
    ∃ f1 f0 f2, f = f1 ++ f0 ++ f2 ∧ Reps K H (ts.set k s) (vs.set k w) (f1 ++ g ++ f2) := by
  obtain ⟨v, f1, f0, f2, a, b, c, d1, d2⟩ := Reps.get r (List.getElem?_eq_getElem hk)
  refine ⟨f1, f0, f2, b, ?_⟩
  have hv : k < vs.length := by rw [r.len]; exact hk
  rw [List.set_eq_take_append_cons_drop, if_pos hk, List.set_eq_take_append_cons_drop, if_pos hv, List.append_assoc]
  exact Reps.append d1 ⟨w, _, g, f2, rfl, rfl, rs, d2⟩
theorem set_ok (X : Cx) (xi : XI) : ∀ vs H Q E, spF X.K xi 3 setF vs H Q E → (match vs with | [v, o, i] => rSetL o i v H (fun H' => Q .non H') | _ => False) := by
  intro vs H Q E h
  obtain ⟨ts, fp, hl, e, h⟩ := h
  rcases ts with _ | ⟨t, _ | ⟨s, _ | ⟨u, _ | ⟨z, ts⟩⟩⟩⟩ <;> simp at hl
  have hv : vs.length = 3 := by simpa using e.len
  rcases vs with _ | ⟨y, _ | ⟨x, _ | ⟨z, _ | ⟨z', vs⟩⟩⟩⟩ <;> simp at hv
  obtain ⟨y', hy, r2⟩ := e.rep 0 t rfl
  obtain ⟨x', hx, r1⟩ := e.rep 1 s rfl
  obtain ⟨z', hz, r3⟩ := e.rep 2 u rfl
  have e1 : y = y' := by simpa using hy
  have e2 : x = x' := by simpa using hx
  have e3 : z = z' := by simpa using hz
  subst e1 e2 e3
  cases s <;> first | exact (show False from h).elim | skip
  rename_i us
  cases u <;> first | exact (show False from h).elim | skip
  rename_i i
  obtain ⟨rfl, ef2⟩ := r3
  simp only [setF] at h
  cases hk : ixN us.length i with
  | none => rw [hk] at h; exact h.elim
  | some k =>
    rw [hk] at h
    obtain ⟨a, ws, g, rfl, ef, ha, rs⟩ := r1
    have klt : k < us.length := (ixN_seq hk).2.1
    have n1 := e.nd 1
    rw [ef] at n1
    have na := List.nodup_cons.mp n1
    have dj : ∀ b, b ∈ fp 0 → b ∉ fp 1 := fun b h1 h2 => by have := e.dj 0 1 b h1 h2; omega
    have nd0 := e.nd 0
    have kp : Keep (· = a) H (upd H a (.lst (ws.set k y))) := upd_keep
    have lo := lists_one ha
    have k1 : ∀ b ∈ g, ¬ b = a := fun b hb z => na.1 (z ▸ hb)
    have k2 : ∀ b ∈ fp 0, ¬ b = a := fun b hb z => dj b hb (by rw [ef, z]; exact List.mem_cons_self)
    obtain ⟨f1, f0, f2, rfl, rn⟩ := reps_put (rs.keep kp lo k1) klt (r2.keep kp lo k2)
    refine ⟨a, ws, i, k, rfl, rfl, ha, by rw [rs.len]; exact hk, ?_⟩
    have n2 := List.nodup_append.mp na.2
    have n3 := List.nodup_append.mp n2.1
    have inG : ∀ b, b ∈ f1 ∨ b ∈ f2 → b ∈ f1 ++ f0 ++ f2 := fun b hb => by rcases hb with hb | hb <;> simp [hb]
    have not0 : ∀ b, b ∈ f1 ++ f0 ++ f2 → b ∉ fp 0 := fun b hb h0 => dj b h0 (by rw [ef]; exact List.mem_cons_of_mem _ hb)
    have R : Rep X.K (upd H a (.lst (ws.set k y))) (.lst (us.set k t)) (.ref a) (a :: (f1 ++ fp 0 ++ f2)) := ⟨a, _, _, rfl, rfl, upd_same, rn⟩
    have nd : (a :: (f1 ++ fp 0 ++ f2)).Nodup := by
      refine List.nodup_cons.mpr ⟨fun z => ?_, List.nodup_append.mpr ⟨List.nodup_append.mpr ⟨n3.1, nd0, fun b hb c hc z => not0 b (inG b (.inl hb)) (z ▸ hc)⟩, n2.2.1, fun b hb c hc z => ?_⟩⟩
      · rcases List.mem_append.mp z with z | z
        · rcases List.mem_append.mp z with z | z
          · exact na.1 (inG a (.inl z))
          · exact dj a z (by rw [ef]; exact List.mem_cons_self)
        · exact na.1 (inG a (.inr z))
      · subst z
        rcases List.mem_append.mp hb with hb | hb
        · exact n2.2.2 b (List.mem_append_left _ hb) b hc rfl
        · exact not0 b (inG b (.inr hc)) hb
    have sub : ∀ b, b ∈ a :: (f1 ++ fp 0 ++ f2) → In fp b := fun b hb => by
      rcases List.mem_cons.mp hb with rfl | hb
      · exact ⟨1, by rw [ef]; exact List.mem_cons_self⟩
      · rcases List.mem_append.mp hb with hb | hb
        · rcases List.mem_append.mp hb with hb | hb
          · exact ⟨1, by rw [ef]; exact List.mem_cons_of_mem _ (inG b (.inl hb))⟩
          · exact ⟨0, hb⟩
        · exact ⟨1, by rw [ef]; exact List.mem_cons_of_mem _ (inG b (.inr hb))⟩
    refine h .non _ (fun j => if j = 1 then a :: (f1 ++ fp 0 ++ f2) else []) [] ⟨rfl, fun j s hj => ?_, fun j hj => ?_, fun j => ?_, fun j k b h1 h2 => ?_⟩ ⟨fun b u hb hn => by rw [upd_ne (fun z => hn (by rw [z]; exact ⟨1, by rw [ef]; exact List.mem_cons_self⟩))]; exact hb, fun b hb => .inl ?_, .nil, fun _ hb => by cases hb⟩ ⟨rfl, rfl⟩
    · rcases j with _ | _ | _ | j
      · simp at hj
      · have es : T.lst (us.set k t) = s := by simpa using hj
        subst es
        exact ⟨.ref a, rfl, by simpa using R⟩
      · have es : T.int i = s := by simpa using hj
        subst es
        exact ⟨.int i, rfl, rfl, by simp⟩
      · simp at hj
    · by_cases c : j = 1
      · subst c; exact absurd rfl (hj _)
      · simp [c]
    · by_cases c : j = 1
      · simp only [if_pos c]; exact nd
      · simp only [if_neg c]; exact .nil
    · by_cases c : j = 1
      · by_cases c' : k = 1
        · rw [c, c']
        · simp only [if_neg c'] at h2; cases h2
      · simp only [if_neg c] at h1; cases h1
    · rcases hb with ⟨j, hb⟩ | hb
      · by_cases c : j = 1
        · simp only [if_pos c] at hb; exact sub b hb
        · simp only [if_neg c] at hb; cases hb
      · cases hb
def effS (s : Rho → R) : Rho → RS := fun ρ => match s ρ with
  | .ok _ ρ' _ => .nx ρ'
  | .ex c t ρ' => .ex c t ρ'
  | .stuck => .stuck
theorem tE.nx {K : PySem.W.Frag} {xi : XI} {W : WX} {s : Rho → R} {D : Ends} {σ : L2.St} {H : Hp} (h : tS K xi W [] (effS s) D σ H) : tE K xi W s σ H fun _ H' => D.nx σ H' := by
  obtain ⟨ρ, fp, e, h⟩ := h
  refine ⟨ρ, fp, e, ?_⟩
  simp only [effS] at h
  cases hs : s ρ with
  | stuck => rw [hs] at h; exact h
  | ex c t ρ' => rw [hs] at h; exact fun d H' fp' e' s' x => h d σ H' fp' e' s' Agree.refl x
  | ok o ρ' τ => rw [hs] at h; exact fun v H' fp' fo e' s' q' r' => h σ H' fp' e' s'.drop Agree.refl
def sSetIx (o i a : Ex) : Sx where
  sem := effS (effSem 3 [a.sem, o.sem, i.sem] setF)
  asg := []
  m := fun N sc cm s => match s with
    | .Assign [.Subscript x y _] z _ => notSlice y && (o.m N sc cm x && (i.m N sc cm y && a.m N sc cm z))
    | _ => false
  pre := fun Γ k => o.pre Γ k ∧ i.pre Γ k ∧ a.pre Γ k
  snd := fun {X xi N sc lvl cm W x} g p h => by
    split at h
    · simp only [Bool.and_eq_true] at h
      obtain ⟨h0, h1, h2, h3⟩ := h
      rename_i x y p1 z p2
      have hsw : swapsWithSole [.Subscript x y p1] z p2.line X.env = pure false := by
        show swapsWith z (some (.Subscript x y p1)) p2.line X.env = pure false
        cases z <;> rfl
      have ha : ∀ v, assign (.Subscript x y p1) X.env v = (do
          let ov ← holding [v] (eval x X.env)
          let iv ← holding [v, ov] (eval y X.env)
          standAt p1
          holding [v, ov, iv] (setItem ov iv v)
          release [v, ov, iv] []) := by
        intro v
        cases y <;> first | rfl | cases h0
      refine PS.to (ps_asg (a.snd g.toGd p.2.2 h3) (pg_sub (o.snd g.toGd p.1 h1) (i.snd g.toGd p.2.1 h2) set_list ha) hsw (by cases z <;> rfl) rfl) fun D σ H hq => ?_
      exact eff_to (r := fun _ vs H Q => match vs with | [v, o, i] => rSetL o i v H (fun H' => Q .non H') | _ => False) (fun vs H Q z => set_ok X xi vs H Q _ z) (tE.nx hq)
    · cases h

/-! ### while -/
def whileF : Nat → (Rho → RB) → (Rho → RS) → Rho → RS
  | 0, _, _, _ => .stuck
  | n + 1, c, b, ρ => match c ρ with
    | .ok k ρ1 _ => if k = true then (match b ρ1 with
        | .nx ρ2 => whileF n c b ρ2
        | .ct ρ2 => whileF n c b ρ2
        | .bk ρ2 => .nx ρ2
        | x => x) else .nx ρ1
    | .ex x t ρ1 => .ex x t ρ1
    | .stuck => .stuck
def sWhile (fuel : Nat) (c : Bx) (b : Bl) : Sx where
  sem := whileF fuel c.sem b.sem
  asg := b.asg
  m := fun N sc cm s => match s with
    | .While t x [] _ => c.m N sc cm t && b.m N sc cm x
    | _ => false
  pre := fun Γ k => c.pre Γ k ∧ b.pre Γ k
  snd := fun {X xi N sc lvl cm W x} g p h => by
    split at h
    · simp only [Bool.and_eq_true] at h
      refine PS.to (ps_while g.hpo (c.snd g.toGd p.1 h.1) (b.snd g p.2 h.2)) fun D σ H hq => ?_
      refine ⟨fun m σ H => tS X.K xi W b.asg (whileF m c.sem b.sem) D σ H, ⟨fuel, hq⟩, fun m σ H hm => ?_⟩
      obtain ⟨ρ, fp, e, hm⟩ := hm
      cases m with
      | zero => exact hm.elim
      | succ n =>
        refine ⟨ρ, fp, e, ?_⟩
        simp only [whileF] at hm
        cases hc : c.sem ρ with
        | stuck => rw [hc] at hm; exact hm
        | ex c t ρ' => rw [hc] at hm; exact fun d H' fp' e' s' x => hm d σ H' fp' e' s' Agree.refl x
        | ok k ρ1 τ =>
          rw [hc] at hm
          simp only at hm
          intro H1 fp1 e1 s1 q1
          cases k with
          | false =>
            rw [if_neg Bool.false_ne_true] at hm ⊢
            exact hm σ H1 fp1 e1 s1 Agree.refl
          | true =>
            rw [if_pos rfl] at hm ⊢
            refine ⟨tS X.K xi W b.asg (whileF n c.sem b.sem) D, fun σ' H' z => ⟨n, Nat.lt_succ_self n, z⟩, ρ1, fp1, e1, ?_⟩
            cases hb : b.sem ρ1 with
            | stuck => rw [hb] at hm; exact hm
            | nx ρ2 => rw [hb] at hm; exact fun σ2 H2 fp2 e2 s2 a2 => ⟨ρ2, fp2, e2, hm.from (s1.trans0 s2) a2⟩
            | ct ρ2 => rw [hb] at hm; exact fun σ2 H2 fp2 e2 s2 a2 => ⟨ρ2, fp2, e2, hm.from (s1.trans0 s2) a2⟩
            | bk ρ2 => rw [hb] at hm; exact fun σ2 H2 fp2 e2 s2 a2 => hm σ2 H2 fp2 e2 (s1.trans0 s2) a2
            | ret t ρ2 => rw [hb] at hm; exact fun v σ2 H2 fp2 fo e2 s2 a2 r2 => hm v σ2 H2 fp2 fo e2 (s1.trans0 s2) a2 r2
            | ex x t ρ2 => rw [hb] at hm; exact fun d σ2 H2 fp2 e2 s2 a2 x => hm d σ2 H2 fp2 e2 (s1.trans0 s2) a2 x
    · cases h

/-! ### what a loop walks -/
inductive RI where
  | ok (items : List T) (ρ : Rho) (τ : Bool) (w : Bool) | ex (c : Nat) (t : T) (ρ : Rho) | stuck
/-- J yields these items as long as what G may change changes alone (w: as long as nothing changes) -/
def Serves (K : PySem.W.Frag) (J : It) (items : List T) (G : Addr → Prop) (H : Hp) (w : Bool) : Prop :=
  ∀ i H2, Keep (if w = true then fun _ => False else G) H H2 → (∀ t, items[i]? = some t → J.go i H2 ∧ ∀ x H3, J.yld i H2 x H3 → (∀ a o, H2 a = some o → H3 a = some o) ∧ Rep K H3 t x []) ∧ (items.length ≤ i → J.stop i H2)
def tI (K : PySem.W.Frag) (xi : XI) (W : WX) (sem : Rho → RI) : TI := fun σ H R => ∃ ρ fp, Env K ρ fp σ H ∧ match sem ρ with
  | .ok items ρ' τ w => ∀ J H' fp', Env K ρ' fp' σ H' → Step fp H fp' [] H' → (τ = false → Quiet ρ fp H ρ' fp' H') → Serves K J items (In fp') H' w → R J H'
  | .ex c t ρ' => ∀ d H' fp', Env K ρ' fp' σ H' → Step fp H fp' [] H' → XRep K xi H' d c t → W (.ref (xi.xc c)) (some d) σ H'
  | .stuck => False
structure Ix where
  sem : Rho → RI
  m : List Str → Scope → Bool → Expr → Expr → Bool
  pre : Gm → Nat → Prop
  snd : ∀ {X : Cx} {xi : XI} {N : List Str} {sc : Scope} {lvl : Nat} {cm : Bool} {W : WX} {tg x : Expr}, Gd X xi N sc lvl cm W → pre (gm X xi) lvl → m N sc cm tg x = true → ∃ wi, PI X tg x wi ∧ ∀ σ H R, tI X.K xi W sem σ H R → wi σ H R
theorem PI.or {X : Cx} {tg x : Expr} {w1 w2 : TI} (h1 : PI X tg x w1) (h2 : PI X tg x w2) : PI X tg x fun σ H R => w1 σ H R ∨ w2 σ H R :=
  ⟨fun pins s σ H R I h => h.elim (h1.run pins s σ H R I) (h2.run pins s σ H R I)⟩
def iLift (s : Rho → R) (f : Rho → O → Option (List T × Bool)) : Rho → RI := fun ρ => match s ρ with
  | .ok o ρ' τ => match f ρ' o with
    | some (items, w) => .ok items ρ' τ w
    | none => .stuck
  | .ex c t ρ' => .ex c t ρ'
  | .stuck => .stuck
def rangeL (lo hi : Int) : List T := (List.range (hi - lo).toNat).map fun (k : Nat) => T.int (lo + (k : Int))
def small62 (i : Int) : Bool := decide (-(2 ^ 62) ≤ i) && decide (i < 2 ^ 62)
theorem serves_range {K : PySem.W.Frag} {G : Addr → Prop} {H : Hp} {lo : Int} {n : Nat} {w : Bool} : Serves K (Itr lo n) ((List.range n).map fun (k : Nat) => T.int (lo + (k : Int))) G H w := by
  intro i H2 _
  refine ⟨fun t ht => ?_, fun h => by show n ≤ i; simpa using h⟩
  rw [List.getElem?_map] at ht
  by_cases hi : i < n
  · rw [List.getElem?_range hi] at ht
    cases ht
    refine ⟨hi, fun x H3 y => ?_⟩
    obtain ⟨rfl, rfl⟩ := y
    exact ⟨fun _ _ z => z, rfl, rfl⟩
  · rw [List.getElem?_eq_none (by simpa using hi)] at ht; cases ht
/-- for opSem-like arguments: a call of range -/
def rngSem (ss : List (Rho → R)) (f : List T → Option (List T)) : Rho → RI := fun ρ => match evL ss ρ with
  | .ok os ρ' τ => match getOs ρ' os with
    | some ts => match f ts with
      | some items => .ok items ρ' τ false
      | none => .stuck
    | none => .stuck
  | .ex c t ρ' => .ex c t ρ'
  | .stuck => .stuck
def rng1F : List T → Option (List T)
  | [.int j] => if small62 j = true then some (rangeL 0 j) else none
  | _ => none
def rng2F : List T → Option (List T)
  | [.int i, .int j] => if (small62 i && small62 j) = true then some (rangeL i j) else none
  | _ => none
def rng3F : List T → Option (List T)
  | [.int i, .int j, .int c] => if (decide (c = -1) && (small62 i && small62 j)) = true then some ((List.range (i - j).toNat).map fun (k : Nat) => T.int (i + (k : Int) * (-1))) else none
  | _ => none
theorem ors_vals {K : PySem.W.Frag} {ρ : Rho} {fp : Fp} {σ : L2.St} {H : Hp} (e : Env K ρ fp σ H) : ∀ {os : List O} {ts : List T} {vs : List V} {fo : List Addr}, ORs K ρ fp σ H os vs fo → getOs ρ os = some ts → ∃ fs : List (List Addr), fs.length = ts.length ∧ vs.length = ts.length ∧ ∀ (j : Nat) t, ts[j]? = some t → ∃ v f, vs[j]? = some v ∧ Rep K H t v f
  | [], ts, vs, fo, o, g => by
    cases g
    obtain ⟨rfl, _⟩ := o
    exact ⟨[], rfl, rfl, fun j t h => by simp at h⟩
  | a :: os, ts, vs, fo, o, g => by
    obtain ⟨v, ws, f1, f2, rfl, rfl, o1, o2⟩ := o
    simp only [getOs] at g
    cases ga : getO ρ a with
    | none => rw [ga] at g; cases g
    | some t =>
      rw [ga] at g
      cases gs : getOs ρ os with
      | none => rw [gs] at g; cases g
      | some us =>
        rw [gs] at g
        cases g
        obtain ⟨f, rf, _⟩ := o1.get e ga
        obtain ⟨fs, h1, h2, h3⟩ := ors_vals e o2 gs
        refine ⟨f :: fs, by simp [h1], by simp [h2], fun j s hj => ?_⟩
        cases j with
        | zero =>
          have : t = s := by simpa using hj
          subst this
          exact ⟨v, f, rfl, rf⟩
        | succ j => exact h3 j s (by simpa using hj)
theorem rng_to {K : PySem.W.Frag} {xi : XI} {W : WX} {ss : List (Rho → R)} {f : List T → Option (List T)} {r : List V → Hp → (It → Hp → Prop) → Prop}
    (ok : ∀ ts vs H items, f ts = some items → vs.length = ts.length → (∀ (j : Nat) t, ts[j]? = some t → ∃ v f, vs[j]? = some v ∧ Rep K H t v f) → ∀ R : It → Hp → Prop, (∀ J, (∀ G, Serves K J items G H false) → R J H) → r vs H R)
    {σ : L2.St} {H : Hp} {R : It → Hp → Prop} (h : tI K xi W (rngSem ss f) σ H R) : nest K xi W ss σ H fun vs H1 => r vs H1 R := by
  obtain ⟨ρ, fp, e, h⟩ := h
  refine nest_of ⟨ρ, fp, e, ?_⟩
  simp only [rngSem] at h
  cases hs : evL ss ρ with
  | stuck => rw [hs] at h; exact h
  | ex c t ρ1 => rw [hs] at h; exact h
  | ok os ρ1 τ1 =>
    rw [hs] at h
    simp only at h
    cases hg : getOs ρ1 os with
    | none => rw [hg] at h; exact h.elim
    | some ts =>
      rw [hg] at h
      simp only at h
      cases hf : f ts with
      | none => rw [hf] at h; exact h.elim
      | some items =>
        rw [hf] at h
        intro vs H1 fp1 fo1 e1 s1 q1 o1
        obtain ⟨_, _, h2, h3⟩ := ors_vals e1 o1 hg
        exact ok ts vs H1 items hf h2 h3 R fun J sv => h J H1 fp1 e1 s1.drop q1 (sv _)
theorem len_1 {α : Type} {l : List α} (h : l.length = 1) : ∃ x, l = [x] := by
  rcases l with _ | ⟨x, _ | ⟨y, l⟩⟩
  · cases h
  · exact ⟨x, rfl⟩
  · simp at h
theorem len_2 {α : Type} {l : List α} (h : l.length = 2) : ∃ x y, l = [x, y] := by
  rcases l with _ | ⟨x, _ | ⟨y, _ | ⟨z, l⟩⟩⟩
  · cases h
  · simp at h
  · exact ⟨x, y, rfl⟩
  · simp at h
theorem len_3 {α : Type} {l : List α} (h : l.length = 3) : ∃ x y z, l = [x, y, z] := by
  rcases l with _ | ⟨x, _ | ⟨y, _ | ⟨z, _ | ⟨u, l⟩⟩⟩⟩
  · cases h
  · simp at h
  · simp at h
  · exact ⟨x, y, z, rfl⟩
  · simp at h
theorem nest1 {K : PySem.W.Frag} {xi : XI} {W : WX} {a : Rho → R} : nest K xi W [a] = tCons (tE K xi W a) tNil := rfl
def iRange (n : Nat) (a : Xs) (f : List T → Option (List T)) (hn : n = 1 ∧ f = rng1F ∨ n = 2 ∧ f = rng2F ∨ n = 3 ∧ f = rng3F) : Ix where
  sem := rngSem a.sems f
  m := fun N sc cm tg e => match e with
    | .Call (.Name y _) es [] _ => decide (y = "range") && (glB sc y && (noStars es && (decide (es.length = n) && a.m N sc cm es)))
    | _ => false
  pre := fun Γ k => Γ.mg "range" = none ∧ a.pre Γ k
  snd := fun {X xi N sc lvl cm W tg e} g p h => by
    split at h
    · simp only [Bool.and_eq_true, decide_eq_true_eq] at h
      obtain ⟨rfl, h1, h2, h3, h4⟩ := h
      rename_i es pos p0
      have G := gl_of g.hsc h1
      have pa := a.snd g p.2 h4
      rcases hn with ⟨rfl, rfl⟩ | ⟨rfl, rfl⟩ | ⟨rfl, rfl⟩
      · obtain ⟨x, rfl⟩ := len_1 h3
        simp only [noStars, Bool.and_eq_true] at h2
        refine ⟨_, pi_range1 G.gl p.1 pa (by rw [starEach_of h2.1]; rfl), fun σ H R hq => rng_to (r := fun vs H1 R => ∃ j : Int, vs = [.int j] ∧ -(2 ^ 62) ≤ j ∧ j < 2 ^ 62 ∧ R (Itr 0 j.toNat) H1) (fun ts vs H items hf hl hv R k => ?_) hq⟩
        unfold rng1F at hf
        split at hf
        · rename_i j
          split at hf
          · rename_i c
            cases hf
            obtain ⟨v, f, hv0, r⟩ := hv 0 _ rfl
            rcases vs with _ | ⟨v', _ | ⟨w, vs⟩⟩ <;> simp at hl
            have : v' = v := by simpa using hv0
            subst this
            rw [r.1]
            simp only [small62, Bool.and_eq_true, decide_eq_true_eq] at c
            refine ⟨j, rfl, c.1, c.2, k _ fun G => ?_⟩
            have := serves_range (K := X.K) (G := G) (H := H) (lo := 0) (n := j.toNat) (w := false)
            simpa [rangeL] using this
          · cases hf
        · cases hf
      · obtain ⟨x, y, rfl⟩ := len_2 h3
        simp only [noStars, Bool.and_eq_true] at h2
        refine ⟨_, pi_range2 G.gl p.1 pa (by rw [starEach_of h2.1, starEach_of h2.2.1]; rfl) (by rw [starEach_of h2.2.1]; rfl), fun σ H R hq => rng_to (r := fun vs H1 R => ∃ i j : Int, vs = [.int i, .int j] ∧ (-(2 ^ 62) ≤ i ∧ i < 2 ^ 62 ∧ -(2 ^ 62) ≤ j ∧ j < 2 ^ 62) ∧ R (Itr i (j - i).toNat) H1) (fun ts vs H items hf hl hv R k => ?_) hq⟩
        unfold rng2F at hf
        split at hf
        · rename_i i j
          split at hf
          · rename_i c
            cases hf
            obtain ⟨v, f, hv0, r⟩ := hv 0 _ rfl
            obtain ⟨w, f', hw0, r'⟩ := hv 1 _ rfl
            rcases vs with _ | ⟨v', _ | ⟨w', _ | ⟨z', vs⟩⟩⟩ <;> simp at hl
            have e1 : v' = v := by simpa using hv0
            have e2 : w' = w := by simpa using hw0
            subst e1 e2
            rw [r.1, r'.1]
            simp only [small62, Bool.and_eq_true, decide_eq_true_eq] at c
            exact ⟨i, j, rfl, ⟨c.1.1, c.1.2, c.2.1, c.2.2⟩, k _ fun G => serves_range⟩
          · cases hf
        · cases hf
      · obtain ⟨x, y, z, rfl⟩ := len_3 h3
        simp only [noStars, Bool.and_eq_true] at h2
        refine ⟨_, pi_range3 G.gl p.1 pa (starEach_of h2.1) (anyStar_of (by simp [noStars, h2.2.1, h2.2.2])), fun σ H R hq => rng_to (r := fun vs H1 R => ∃ (i j c : Int) (n : Nat), vs = [.int i, .int j, .int c] ∧ RgC i j c n ∧ R (Itc i c n) H1) (fun ts vs H items hf hl hv R k => ?_) hq⟩
        unfold rng3F at hf
        split at hf
        · rename_i i j c0
          split at hf
          · rename_i c
            cases hf
            obtain ⟨v, f, hv0, r⟩ := hv 0 _ rfl
            obtain ⟨w, f', hw0, r'⟩ := hv 1 _ rfl
            obtain ⟨u, f'', hu0, r''⟩ := hv 2 _ rfl
            rcases vs with _ | ⟨v', _ | ⟨w', _ | ⟨u', _ | ⟨z', vs⟩⟩⟩⟩ <;> simp at hl
            have e1 : v' = v := by simpa using hv0
            have e2 : w' = w := by simpa using hw0
            have e3 : u' = u := by simpa using hu0
            subst e1 e2 e3
            rw [r.1, r'.1, r''.1]
            simp only [small62, Bool.and_eq_true, decide_eq_true_eq] at c
            obtain ⟨rfl, c1, c2⟩ := c
            refine ⟨i, j, -1, _, rfl, RgC.neg c1.1 c1.2 c2.1 c2.2, k _ fun G i2 H2 _ => ⟨fun t ht => ?_, fun h => by show (i - j).toNat ≤ i2; rw [List.length_map, List.length_range] at h; exact h⟩⟩
            rw [List.getElem?_map] at ht
            by_cases hi : i2 < (i - j).toNat
            · rw [List.getElem?_range hi] at ht
              cases ht
              refine ⟨hi, fun x H3 y => ?_⟩
              obtain ⟨rfl, rfl⟩ := y
              exact ⟨fun _ _ z => z, rfl, rfl⟩
            · rw [List.getElem?_eq_none (by simpa using hi)] at ht; cases ht
          · cases hf
        · cases hf
    · cases h
def iRange1 (a : Ex) : Ix := iRange 1 (xs [a]) rng1F (.inl ⟨rfl, rfl⟩)
def iRange2 (a b : Ex) : Ix := iRange 2 (xs [a, b]) rng2F (.inr (.inl ⟨rfl, rfl⟩))
def iRange3 (a b c : Ex) : Ix := iRange 3 (xs [a, b, c]) rng3F (.inr (.inr ⟨rfl, rfl⟩))
/-- a list, a tuple, a text -/
def signs (z : Str) : List T := z.cps.toList.map fun c => .str ⟨#[c]⟩
def seqI (ρ : Rho) (o : O) : Option (List T × Bool) := match getO ρ o with
  | some (.tup ts) => if T.imms ts = true then some (ts, false) else none
  | some (.lst ts) => if T.imms ts = true then some (ts, !o.isV) else none
  | some (.str z) => some (signs z, false)
  | some (.fro ns) => some (ns.map .int, false)
  | _ => none
theorem reps_at {K : PySem.W.Frag} {H : Hp} {ts : List T} {vs : List V} {i : Nat} {t : T} (r : Reps K H ts vs []) (h : ts[i]? = some t) : ∃ v, vs[i]? = some v ∧ Rep K H t v [] := by
  obtain ⟨v, f1, g, f2, a, b, c, _⟩ := Reps.get r h
  have : g = [] := by
    have := b.symm
    simp at this
    exact this.2.1
  subst this
  exact ⟨v, a, c⟩
theorem serves_list {K : PySem.W.Frag} {G : Addr → Prop} {H : Hp} {a : Addr} {ts : List T} {vs : List V} {w : Bool} (r : Reps K H ts vs []) (lo : Lists G H) (st : ∀ H2, Keep (if w = true then fun _ => False else G) H H2 → SqL K H2 a vs) : Serves K (Itl K a) ts G H w := by
  intro i H2 kp
  have sq := st H2 kp
  have r2 : Reps K H2 ts vs [] := by
    cases w with
    | true => exact r.ext fun a o z => kp a o z (fun z => by simp at z)
    | false => exact r.keep kp (by simpa using lo) (fun _ z => by cases z)
  refine ⟨fun t ht => ?_, fun h => ⟨vs, sq, by rw [r.len]; exact h⟩⟩
  obtain ⟨v, hv, rv⟩ := reps_at r2 ht
  refine ⟨⟨vs, v, sq, hv⟩, fun x H3 y => ?_⟩
  obtain ⟨rfl, y⟩ := y
  have z := y vs sq
  rw [hv] at z
  cases z
  exact ⟨fun _ _ z => z, rv⟩
theorem serves_tup {K : PySem.W.Frag} {G : Addr → Prop} {H : Hp} {a : Addr} {ts : List T} {vs : List V} (r : Reps K H ts vs []) (lo : Lists G H) (sq : SqT K H a vs) : Serves K (Itt K a) ts G H false := by
  intro i H2 kp
  have kp' : Keep G H H2 := by simpa using kp
  have sq := sqT_keep kp' lo sq
  have r2 : Reps K H2 ts vs [] := r.keep kp' lo (fun _ z => by cases z)
  refine ⟨fun t ht => ?_, fun h => ⟨vs, sq, by rw [r.len]; exact h⟩⟩
  obtain ⟨v, hv, rv⟩ := reps_at r2 ht
  refine ⟨⟨vs, v, sq, hv⟩, fun x H3 y => ?_⟩
  obtain ⟨rfl, y⟩ := y
  have z := y vs sq
  rw [hv] at z
  cases z
  exact ⟨fun _ _ z => z, rv⟩
theorem serves_str {K : PySem.W.Frag} {G : Addr → Prop} {H : Hp} {z : Str} : Serves K (Its z) (signs z) G H false := by
  intro i H2 _
  refine ⟨fun t ht => ?_, fun h => by show z.cps.size ≤ i; simpa [signs] using h⟩
  unfold signs at ht
  rw [List.getElem?_map] at ht
  have hc : z.cps.toList[i]? = z.cps[i]? := by simp
  rw [hc] at ht
  cases e : z.cps[i]? with
  | none => rw [e] at ht; cases ht
  | some c =>
    rw [e] at ht
    cases ht
    refine ⟨?_, fun x H3 y => ?_⟩
    · show i < z.cps.size
      by_cases h : i < z.cps.size
      · exact h
      · rw [Array.getElem?_eq_none (by omega)] at e; cases e
    · obtain ⟨rfl, c', e', rfl⟩ := y
      rw [e] at e'
      cases e'
      exact ⟨fun _ _ z => z, rfl, rfl⟩
def iSeq (a : Ex) : Ix where
  sem := iLift a.sem seqI
  m := fun N sc cm tg e => a.m N sc cm e
  pre := a.pre
  snd := fun {X xi N sc lvl cm W tg e} g p h => by
    have pa := a.snd g p h
    refine ⟨_, PI.or (pi_list pa) (PI.or (pi_tup pa) (pi_str pa)), fun σ H R hq => ?_⟩
    obtain ⟨ρ, fp, e, hq⟩ := hq
    simp only [iLift] at hq
    cases hs : a.sem ρ with
    | stuck => rw [hs] at hq; exact hq.elim
    | ex c t ρ' =>
      rw [hs] at hq
      exact .inl ⟨ρ, fp, e, by rw [hs]; exact hq⟩
    | ok o ρ' τ =>
      rw [hs] at hq
      simp only at hq
      cases hg : getO ρ' o with
      | none => simp only [seqI, hg] at hq
      | some t =>
        cases t with
        | tup ts =>
          by_cases c : T.imms ts = true
          case neg => simp only [seqI, hg, if_neg c] at hq
          simp only [seqI, hg, if_pos c] at hq
          refine .inr (.inl ⟨ρ, fp, e, ?_⟩)
          rw [hs]
          intro v H' fp' fo e' s' q' r'
          obtain ⟨f, rf, _⟩ := r'.get e' hg
          obtain ⟨b, vs, rfl, sq, rs⟩ := rf
          have z := rs.imm_nil c
          subst z
          exact ⟨b, rfl, ⟨vs, sq⟩, hq _ H' fp' e' s'.drop q' (serves_tup rs e'.own sq)⟩
        | lst ts =>
          by_cases c : T.imms ts = true
          case neg => simp only [seqI, hg, if_neg c] at hq
          simp only [seqI, hg, if_pos c] at hq
          refine .inl ⟨ρ, fp, e, ?_⟩
          rw [hs]
          intro v H' fp' fo e' s' q' r'
          obtain ⟨f, rf, _, hf⟩ := r'.get e' hg
          obtain ⟨b, vs, g', rfl, ef, sq, rs⟩ := rf
          have z := rs.imm_nil c
          subst z
          refine ⟨b, rfl, ⟨vs, SqL.of sq⟩, hq _ H' fp' e' s'.drop q' (serves_list rs e'.own fun H2 kp => ?_)⟩
          cases ho : o.isV with
          | true =>
            rw [ho] at kp
            have hb : b ∈ fo := by rw [← hf ho, ef]; exact List.mem_cons_self
            exact SqL.of (kp b _ sq (fun z => s'.dj b hb (by simpa using z)))
          | false =>
            rw [ho] at kp
            exact SqL.of (kp b _ sq (fun z => by simp at z))
        | str z =>
          simp only [seqI, hg] at hq
          refine .inr (.inr ⟨ρ, fp, e, ?_⟩)
          rw [hs]
          intro v H' fp' fo e' s' q' r'
          obtain ⟨f, rf, _⟩ := r'.get e' hg
          exact ⟨z, rf.1, hq _ H' fp' e' s'.drop q' serves_str⟩
        | fro ns =>
          simp only [seqI, hg] at hq
          refine .inl ⟨ρ, fp, e, ?_⟩
          rw [hs]
          intro v H' fp' fo e' s' q' r'
          obtain ⟨f, rf, _⟩ := r'.get e' hg
          obtain ⟨_, b, rfl, hb⟩ := rf
          have sq : SqL X.K H' b (ns.map .int) := by
            rcases hb with ⟨o, hb⟩ | hb
            · exact .inl (.inr ⟨o, hb⟩)
            · exact hb H'
          refine ⟨b, rfl, ⟨_, sq⟩, hq _ H' fp' e' s'.drop q' (serves_list (vs := ns.map .int) (reps_ints ns) e'.own fun H2 kp => ?_)⟩
          rcases hb with ⟨o, hb⟩ | hb
          · refine .inl (.inr ⟨o, kp b _ hb fun z => ?_⟩)
            obtain ⟨xs, w⟩ := e'.own b (by simpa using z)
            rw [hb] at w; cases w
          · exact hb H2
        | _ => simp only [seqI, hg] at hq

/-! ### for -/
def forF (set : T → Rho → Option Rho) (b : Rho → RS) : List T → Rho → RS
  | [], ρ => .nx ρ
  | t :: ts, ρ => match set t ρ with
    | some ρ1 => match b ρ1 with
      | .nx ρ2 => forF set b ts ρ2
      | .ct ρ2 => forF set b ts ρ2
      | .bk ρ2 => .nx ρ2
      | x => x
    | none => .stuck
def forS (it : Rho → RI) (set : T → Rho → Option Rho) (b : Rho → RS) : Rho → RS := fun ρ => match it ρ with
  | .ok items ρ' _ w => if w = true then .stuck else forF set b items ρ'
  | .ex c t ρ' => .ex c t ρ'
  | .stuck => .stuck
theorem folded_of {x : Expr} {env : PySem.Env} (h : notSet x = true) : ∀ v, foldedSetIterable x env v = pure v := by
  intro v
  cases x <;> first | rfl | cases h
def sFor (tg : Tgt) (it : Ix) (b : Bl) : Sx where
  sem := forS it.sem tg.sem b.sem
  asg := tg.asg ++ b.asg
  m := fun N sc cm s => match s with
    | .For t x y [] _ => cm && (notSet x && (tg.m N sc false t && (it.m N sc cm t x && b.m N sc cm y)))
    | _ => false
  pre := fun Γ k => it.pre Γ k ∧ b.pre Γ k
  snd := fun {X xi N sc lvl cm W x} g p h => by
    split at h
    · simp only [Bool.and_eq_true] at h
      obtain ⟨hc, h1, h2, h3, h4⟩ := h
      obtain ⟨gg, hg, gk⟩ := tg.snd g.hN g.nd g.hsc (g.hcm hc) (fun _ => g.fnok) h2
      obtain ⟨wi, hi, ik⟩ := it.snd g.toGd p.1 h3
      refine PS.to (ps_for g.hpo (g.hcm hc) hi hg (b.snd g p.2 h4) (folded_of h1)) fun D σ H hq => ?_
      refine ik σ H _ ?_
      obtain ⟨ρ, fp, e, hq⟩ := hq
      refine ⟨ρ, fp, e, ?_⟩
      simp only [forS] at hq
      cases hs : it.sem ρ with
      | stuck => rw [hs] at hq; exact hq
      | ex c t ρ' => rw [hs] at hq; exact fun d H' fp' e' s' x => hq d σ H' fp' e' s' Agree.refl x
      | ok items ρ' τ w =>
        rw [hs] at hq
        simp only at hq
        cases w with
        | true => rw [if_pos rfl] at hq; exact hq.elim
        | false =>
          rw [if_neg Bool.false_ne_true] at hq
          intro J H1 fp1 e1 s1 q1 sv
          refine ⟨fun i m σ2 H2 => i ≤ items.length ∧ m = items.length - i ∧ ∃ ρ2 fp2, Env X.K ρ2 fp2 σ2 H2 ∧ Step fp1 H1 fp2 [] H2 ∧ postS X.K xi W (tg.asg ++ b.asg) σ2 fp2 H2 D (forF tg.sem b.sem (items.drop i) ρ2),
            ⟨items.length, Nat.zero_le _, rfl, ρ', fp1, e1, Step.refl, by simpa using hq.from s1 Agree.refl⟩, ?_⟩
          rintro i m σ2 H2 ⟨hle, rfl, ρ2, fp2, e2, s2, po⟩
          obtain ⟨sgo, sstop⟩ := sv i H2 (by simpa using s2.keep)
          by_cases hlt : i < items.length
          · have hi' : items[i]? = some items[i] := List.getElem?_eq_getElem hlt
            obtain ⟨go, yl⟩ := sgo _ hi'
            refine .inr ⟨go, fun σ3 H3 => ∃ ρ3 fp3, Env X.K ρ3 fp3 σ3 H3 ∧ Step fp1 H1 fp3 [] H3 ∧ postS X.K xi W (tg.asg ++ b.asg) σ3 fp3 H3 D (forF tg.sem b.sem (items.drop (i + 1)) ρ3), fun σ3 H3 z => ⟨items.length - (i + 1), by omega, by omega, rfl, z⟩, fun x H3 y => ?_⟩
            obtain ⟨k3, r3⟩ := yl x H3 y
            rw [List.drop_eq_getElem_cons hlt] at po
            simp only [forF] at po
            cases ht : tg.sem items[i] ρ2 with
            | none => rw [ht] at po; exact po.elim
            | some ρ3 =>
              rw [ht] at po
              simp only at po
              refine gk _ x [] σ2 H3 ρ2 ρ3 fp2 _ (e2.ext k3) r3 .nil (fun _ z => by cases z) ht fun σ3 fp3 e3 ⟨hin, _⟩ ag3 => ?_
              have s3 : Step fp2 H2 fp3 [] H3 := ⟨fun a o z n => k3 a o z, fun a z => .inl (z.elim (fun z => (hin a z).elim id (fun z => by cases z)) (fun z => by cases z)), List.nodup_nil, fun _ z => by cases z⟩
              refine ⟨ρ3, fp3, e3, ?_⟩
              have ag3' : Agree (tg.asg ++ b.asg) σ2 σ3 := ag3.more fun i z => List.mem_append_left _ z
              have lb : ∀ i ∈ b.asg, i ∈ tg.asg ++ b.asg := fun i z => List.mem_append_right _ z
              have s03 := s2.trans0 s3
              cases hb : b.sem ρ3 with
              | stuck => rw [hb] at po; exact po
              | nx ρ4 => rw [hb] at po; exact fun σ4 H4 fp4 e4 s4 a4 => ⟨ρ4, fp4, e4, s03.trans0 s4, po.from (s3.trans0 s4) (ag3'.trans (a4.more lb))⟩
              | ct ρ4 => rw [hb] at po; exact fun σ4 H4 fp4 e4 s4 a4 => ⟨ρ4, fp4, e4, s03.trans0 s4, po.from (s3.trans0 s4) (ag3'.trans (a4.more lb))⟩
              | bk ρ4 => rw [hb] at po; exact fun σ4 H4 fp4 e4 s4 a4 => po σ4 H4 fp4 e4 (s3.trans0 s4) (ag3'.trans (a4.more lb))
              | ret t ρ4 => rw [hb] at po; exact fun v σ4 H4 fp4 fo e4 s4 a4 r4 => po v σ4 H4 fp4 fo e4 (s3.trans0 s4) (ag3'.trans (a4.more lb)) r4
              | ex c t ρ4 => rw [hb] at po; exact fun d σ4 H4 fp4 e4 s4 a4 x => po d σ4 H4 fp4 e4 (s3.trans0 s4) (ag3'.trans (a4.more lb)) x
          · have ei : i = items.length := by omega
            subst ei
            rw [List.drop_length] at po
            exact .inl ⟨sstop (Nat.le_refl _), po σ2 H2 fp2 e2 Step.refl Agree.refl⟩
    · cases h
end Pv
set_option Elab.async false
set_option linter.all false
set_option maxRecDepth 100000
set_option maxHeartbeats 2000000
/-! Pv part K: list comprehensions. -/
namespace Pv
open PySem L2

def wipeR (ρ : Rho) : List Nat → Rho
  | [] => ρ
  | v :: vs => (wipeR ρ vs).set v none
theorem wipeR_length (ρ : Rho) : ∀ vs : List Nat, (wipeR ρ vs).length = ρ.length
  | [] => rfl
  | v :: vs => by unfold wipeR; rw [List.length_set, wipeR_length ρ vs]
theorem wipeR_out {ρ : Rho} {i : Nat} : ∀ {vs : List Nat}, i ∉ vs → (wipeR ρ vs)[i]? = ρ[i]?
  | [], _ => rfl
  | v :: vs, h => by
    have h1 : v ≠ i := fun e => h (by rw [e]; exact List.mem_cons_self)
    have h2 : i ∉ vs := fun m => h (List.mem_cons_of_mem _ m)
    unfold wipeR
    rw [List.getElem?_set_ne h1]
    exact wipeR_out h2
theorem wipeR_in {ρ : Rho} {i : Nat} : ∀ {vs : List Nat}, i ∈ vs → i < ρ.length → (wipeR ρ vs)[i]? = some none
  | v :: vs, h, hl => by
    unfold wipeR
    by_cases e : v = i
    · subst e
      rw [List.getElem?_set_self (by rw [wipeR_length]; exact hl)]
    · rw [List.getElem?_set_ne e]
      exact wipeR_in (by rcases List.mem_cons.mp h with h | h; exact absurd h.symm e; exact h) hl
theorem wipe_in {σ : L2.St} {i : Nat} : ∀ {vs : List Nat}, i ∈ vs → i < σ.length → (wipe σ vs)[i]? = some none
  | v :: vs, h, hl => by
    unfold wipe
    by_cases e : v = i
    · subst e
      rw [List.getElem?_set_self (by rw [wipe_length]; exact hl)]
    · rw [List.getElem?_set_ne e]
      exact wipe_in (by rcases List.mem_cons.mp h with h | h; exact absurd h.symm e; exact h) hl
theorem wipe_same {σ σ2 : L2.St} {vs : List Nat} (hl : σ2.length = σ.length) (ag : ∀ i, i ∉ vs → σ2[i]? = σ[i]?) : wipe σ2 vs = wipe σ vs := by
  refine List.ext_getElem? fun i => ?_
  by_cases h : i ∈ vs
  · by_cases hi : i < σ.length
    · rw [wipe_in h hi, wipe_in h (by omega)]
    · rw [List.getElem?_eq_none (by rw [wipe_length]; omega), List.getElem?_eq_none (by rw [wipe_length]; omega)]
  · rw [wipe_out h, wipe_out h, ag i h]
theorem wipeR_same {ρ ρ2 : Rho} {vs : List Nat} (hl : ρ2.length = ρ.length) (ag : ∀ i, i ∉ vs → ρ2[i]? = ρ[i]?) : wipeR ρ2 vs = wipeR ρ vs := by
  refine List.ext_getElem? fun i => ?_
  by_cases h : i ∈ vs
  · by_cases hi : i < ρ.length
    · rw [wipeR_in h hi, wipeR_in h (by omega)]
    · rw [List.getElem?_eq_none (by rw [wipeR_length]; omega), List.getElem?_eq_none (by rw [wipeR_length]; omega)]
  · rw [wipeR_out h, wipeR_out h, ag i h]
theorem wipe_wipe (σ : L2.St) (vs : List Nat) : wipe (wipe σ vs) vs = wipe σ vs := wipe_same (wipe_length σ vs) fun i h => wipe_out h
def fpW (fp : Fp) (vs : List Nat) : Fp := fun i => if vs.contains i = true then [] else fp i
theorem in_fpW {fp : Fp} {vs : List Nat} {a : Addr} (h : In (fpW fp vs) a) : In fp a := by
  obtain ⟨i, h⟩ := h
  unfold fpW at h
  split at h
  · cases h
  · exact ⟨i, h⟩
theorem Env.wiped {K : PySem.W.Frag} {ρ : Rho} {fp : Fp} {σ : L2.St} {H : Hp} (e : Env K ρ fp σ H) (vs : List Nat) : Env K (wipeR ρ vs) (fpW fp vs) (wipe σ vs) H := by
  refine ⟨by rw [wipe_length, wipeR_length]; exact e.len, fun i t h => ?_, fun i h => ?_, fun i => ?_, fun i j a h1 h2 => ?_⟩
  · by_cases c : i ∈ vs
    · by_cases hl : i < ρ.length
      · rw [wipeR_in c hl] at h; cases h
      · rw [List.getElem?_eq_none (by rw [wipeR_length]; omega)] at h; cases h
    · rw [wipeR_out c] at h
      obtain ⟨v, hv, r⟩ := e.rep i t h
      exact ⟨v, by rw [wipe_out c]; exact hv, by unfold fpW; rw [if_neg (by simpa using c)]; exact r⟩
  · unfold fpW
    by_cases c : i ∈ vs
    · rw [if_pos (by simpa using c)]
    · rw [if_neg (by simpa using c)]
      exact e.emp i fun t ht => h t (by rw [wipeR_out c]; exact ht)
  · unfold fpW
    split
    · exact .nil
    · exact e.nd i
  · unfold fpW at h1 h2
    split at h1
    · cases h1
    · split at h2
      · cases h2
      · exact e.dj i j a h1 h2
/-- the block's own slots get back what they held -/
def unwipe (ρ0 ρ : Rho) : List Nat → Rho
  | [] => ρ
  | v :: vs => (unwipe ρ0 ρ vs).set v (ρ0.getD v none)
theorem unwipe_length (ρ0 ρ : Rho) : ∀ vs : List Nat, (unwipe ρ0 ρ vs).length = ρ.length
  | [] => rfl
  | v :: vs => by unfold unwipe; rw [List.length_set, unwipe_length ρ0 ρ vs]
theorem unwipe_out {ρ0 ρ : Rho} {i : Nat} : ∀ {vs : List Nat}, i ∉ vs → (unwipe ρ0 ρ vs)[i]? = ρ[i]?
  | [], _ => rfl
  | v :: vs, h => by
    have h1 : v ≠ i := fun e => h (by rw [e]; exact List.mem_cons_self)
    have h2 : i ∉ vs := fun m => h (List.mem_cons_of_mem _ m)
    unfold unwipe
    rw [List.getElem?_set_ne h1]
    exact unwipe_out h2
theorem unwipe_in {ρ0 ρ : Rho} {i : Nat} : ∀ {vs : List Nat}, i ∈ vs → i < ρ.length → (unwipe ρ0 ρ vs)[i]? = some (ρ0.getD i none)
  | v :: vs, h, hl => by
    unfold unwipe
    by_cases e : v = i
    · subst e
      rw [List.getElem?_set_self (by rw [unwipe_length]; exact hl)]
    · rw [List.getElem?_set_ne e]
      exact unwipe_in (by rcases List.mem_cons.mp h with h | h; exact absurd h.symm e; exact h) hl
/-- the block's own slots hold nothing that may change -/
def calmAt (ρ : Rho) (vs : List Nat) : Bool := vs.all fun i => match ρ[i]? with
  | some (some t) => t.imm
  | _ => true
theorem calm_at {ρ : Rho} {vs : List Nat} (h : calmAt ρ vs = true) {i : Nat} {t : T} (hi : i ∈ vs) (ht : ρ[i]? = some (some t)) : t.imm = true := by
  have z := List.all_eq_true.mp h i hi
  simp only [ht] at z
  exact z
theorem calm_fp {K : PySem.W.Frag} {ρ : Rho} {fp : Fp} {σ : L2.St} {H : Hp} (e : Env K ρ fp σ H) {vs : List Nat} (h : calmAt ρ vs = true) : fpW fp vs = fp := by
  funext i
  unfold fpW
  by_cases c : i ∈ vs
  · rw [if_pos (by simpa using c)]
    by_cases ht : ∃ t, ρ[i]? = some (some t)
    · obtain ⟨t, ht⟩ := ht
      obtain ⟨v, _, r⟩ := e.rep i t ht
      exact (r.imm_nil (calm_at h c ht)).symm
    · exact (e.emp i fun t z => ht ⟨t, z⟩).symm
  · rw [if_neg (by simpa using c)]
theorem unwipe_wipe (ρ : Rho) (vs : List Nat) : unwipe ρ (wipeR ρ vs) vs = ρ := by
  refine List.ext_getElem? fun i => ?_
  by_cases h : i ∈ vs
  · by_cases hl : i < ρ.length
    · rw [unwipe_in h (by rw [wipeR_length]; exact hl), List.getElem?_eq_getElem hl, List.getD_eq_getElem?_getD, List.getElem?_eq_getElem hl]; rfl
    · rw [List.getElem?_eq_none (by rw [unwipe_length, wipeR_length]; omega), List.getElem?_eq_none (by omega)]
  · rw [unwipe_out h, wipeR_out h]
theorem Env.upd {K : PySem.W.Frag} {ρ : Rho} {fp : Fp} {σ : L2.St} {H : Hp} (e : Env K ρ fp σ H) {D : Addr} {vs ws : List V} (h : H D = some (.lst vs)) (d : ¬ In fp D) : Env K ρ fp σ (L2.upd H D (.lst ws)) :=
  ⟨e.len, fun i t ht => by
    obtain ⟨v, hv, r⟩ := e.rep i t ht
    exact ⟨v, hv, Rep.keep upd_keep (lists_one h) (fun a ha z => d ⟨i, z ▸ ha⟩) r⟩, e.emp, e.nd, e.dj⟩
theorem Env.unwiped {K : PySem.W.Frag} {ρ ρ2 : Rho} {fp fp2 : Fp} {σ : L2.St} {H H2 : Hp} {vs : List Nat} {fo : List Addr} (e : Env K ρ fp σ H) (e2 : Env K ρ2 fp2 (wipe σ vs) H2) (c : calmAt ρ vs = true) (s : Step fp H fp2 fo H2) (hn : ∀ j ∈ vs, ∀ t, ρ2[j]? ≠ some (some t)) :
    Env K (unwipe ρ ρ2 vs) fp2 σ H2 := by
  refine ⟨by rw [unwipe_length, ← e2.len, wipe_length], fun i t h => ?_, fun i h => ?_, e2.nd, e2.dj⟩
  · by_cases hi : i ∈ vs
    · by_cases hl : i < ρ2.length
      · rw [unwipe_in hi hl] at h
        have ht : ρ[i]? = some (some t) := by
          rw [List.getD_eq_getElem?_getD] at h
          cases z : ρ[i]? with
          | none => rw [z] at h; cases h
          | some o => rw [z] at h; exact h
        obtain ⟨v, hv, r⟩ := e.rep i t ht
        have z := r.imm_nil (calm_at c hi ht)
        rw [z] at r
        refine ⟨v, hv, ?_⟩
        rw [e2.emp i (hn i hi)]
        exact Rep.keep s.keep e.own (fun _ z => by cases z) r
      · rw [List.getElem?_eq_none (by rw [unwipe_length]; omega)] at h; cases h
    · rw [unwipe_out hi] at h
      obtain ⟨v, hv, r⟩ := e2.rep i t h
      exact ⟨v, by rw [← hv, wipe_out hi], r⟩
  · by_cases hi : i ∈ vs
    · exact e2.emp i (hn i hi)
    · exact e2.emp i fun t ht => h t (by rw [unwipe_out hi]; exact ht)

inductive RC where
  | ok (acc : List T) (ρ : Rho) (τ : Bool) | stuck
def lcF (set : T → Rho → Option Rho) (tt : Rho → RB) (te : Rho → R) (vs : List Nat) : List T → List T → Rho → Bool → RC
  | [], acc, ρ, τ => .ok acc ρ τ
  | t :: ts, acc, ρ, τ => match set t ρ with
    | some ρ1 => match tt ρ1 with
      | .ok k ρ2 τ2 => if k = true then (match te ρ2 with
          | .ok (.v y) ρ3 τ3 => if acc.length < sizeLine then lcF set tt te vs ts (acc ++ [y]) (wipeR ρ3 vs) (τ || (τ2 || τ3)) else .stuck
          | _ => .stuck) else lcF set tt te vs ts acc (wipeR ρ2 vs) (τ || τ2)
      | _ => .stuck
    | none => .stuck
def lcSem (it : Rho → RI) (set : T → Rho → Option Rho) (tt : Rho → RB) (te : Rho → R) (vs : List Nat) : Rho → R := fun ρ => match it ρ with
  | .ok items ρ' τ w => if calmAt ρ' vs = true then (match lcF set tt te vs items [] (wipeR ρ' vs) false with
      | .ok acc ρ2 τ2 => if w = true ∧ τ2 = true then .stuck else .ok (.v (.lst acc)) (unwipe ρ' ρ2 vs) (τ || τ2)
      | .stuck => .stuck) else .stuck
  | .ex c t ρ' => .ex c t ρ'
  | .stuck => .stuck
/-- τ only grows -/
theorem lcF_tau {set : T → Rho → Option Rho} {tt : Rho → RB} {te : Rho → R} {vs : List Nat} : ∀ {ts acc : List T} {ρ : Rho} {τ : Bool} {acc' : List T} {ρ' : Rho} {τ' : Bool}, lcF set tt te vs ts acc ρ τ = .ok acc' ρ' τ' → τ' = false → τ = false
  | [], acc, ρ, τ, _, _, _, h, e => by cases h; exact e
  | t :: ts, acc, ρ, τ, _, _, _, h, e => by
    simp only [lcF] at h
    split at h
    · split at h
      · split at h
        · split at h
          · split at h
            · have z := lcF_tau h e
              simp only [Bool.or_eq_false_iff] at z
              exact z.1
            · cases h
          · cases h
        · have z := lcF_tau h e
          simp only [Bool.or_eq_false_iff] at z
          exact z.1
      · cases h
    · cases h

def W0 : WX := fun _ _ _ _ => False
theorem gd_blk {X : Cx} {xi : XI} {N : List Str} {sc : Scope} {lvl : Nat} {cm : Bool} {W : WX} (g : Gd X xi N sc lvl cm W) (s : Shared) (H : Hp) (scope : Scope) (C : Addr) (cl : List (Str × Addr)) (fp : List Addr) :
    Gd (X.blk s H scope (compEnvC scope cl C X.env) fp) xi N (relS scope sc) lvl cm W0 :=
  ⟨g.hN, g.nd, by rw [← g.hsc]; rfl, g.hcm, g.room, g.un, takes0⟩
def ownOf (N : List Str) (vs : List Nat) : List (Str × Nat) := vs.map fun i => (N.getD i Str.empty, i)
theorem own_snd (N : List Str) (vs : List Nat) : (ownOf N vs).map (·.2) = vs := by
  unfold ownOf
  rw [List.map_map]
  show vs.map (fun i => i) = vs
  simp
/-- a comprehension's clause: its own slots, target, source, test, element -/
structure Lc where
  vs : List Nat
  tg : Tgt
  it : Ix
  ifs : Option Bx
  el : Ex
def Lc.tt (l : Lc) : Rho → RB := match l.ifs with
  | some b => b.sem
  | none => fun ρ => .ok true ρ false
def Lc.sem (l : Lc) : Rho → R := lcSem l.it.sem l.tg.sem l.tt l.el.sem l.vs
def Lc.m (l : Lc) (N : List Str) (sc : Scope) (cm : Bool) : Expr → Bool
  | .ListComp elt [⟨t, iter, ifs, a⟩] scope _ => decide (a = 0) && (notSet iter && (blkC N sc scope (ownOf N l.vs) && ((l.tg.asg.all fun i => l.vs.contains i) && (l.tg.m N (relS scope sc) true t && (l.it.m N sc cm t iter && (l.el.m N (relS scope sc) cm elt &&
      (cm && (match l.ifs, ifs with
        | none, [] => true
        | some b, [c] => b.m N (relS scope sc) cm c
        | _, _ => false))))))))
  | _ => false
def Lc.pre (l : Lc) (Γ : Gm) (k : Nat) : Prop := l.it.pre Γ k ∧ l.el.pre Γ k ∧ match l.ifs with
  | some b => b.pre Γ k
  | none => True
/-- the parts that HandS's rules ask, and their reading -/
theorem Lc.parts (l : Lc) {X : Cx} {xi : XI} {N : List Str} {sc : Scope} {lvl : Nat} {cm : Bool} {W : WX} {elt t iter : Expr} {ifs : List Expr} {scope : Scope} {pos : Pos} {a : Int} (g : Gd X xi N sc lvl cm W) (p : l.pre (gm X xi) lvl) (h : l.m N sc cm (.ListComp elt [⟨t, iter, ifs, a⟩] scope pos) = true) :
    a = 0 ∧ X.calm = true ∧ notSet iter = true ∧ BlkOk X.N X.env.scope scope (ownOf N l.vs) ∧ ∃ wi gg tt te, PI X t iter wi ∧
      (∀ (s : Shared) (H : Hp) (C : Addr) (cl : List (Str × Addr)) (fp : List Addr), PG (X.blk s H scope (compEnvC scope cl C X.env) fp) t gg) ∧
      (∀ (s : Shared) (H : Hp) (C : Addr) (cl : List (Str × Addr)) (fp : List Addr), PTs (X.blk s H scope (compEnvC scope cl C X.env) fp) ifs tt) ∧
      (∀ (s : Shared) (H : Hp) (C : Addr) (cl : List (Str × Addr)) (fp : List Addr), PE (X.blk s H scope (compEnvC scope cl C X.env) fp) elt te) ∧
      ∀ σ H Q, tE X.K xi W l.sem σ H Q → tLc wi gg tt te ((ownOf N l.vs).map (·.2)) σ H Q := by
  simp only [Lc.m, Bool.and_eq_true, decide_eq_true_eq, List.all_eq_true] at h
  obtain ⟨ha, hns, hblk, hasg, htg, hit, hel, hcm, hif⟩ := h
  have hc := g.hcm hcm
  obtain ⟨wi, hi, ik⟩ := l.it.snd g p.1 hit
  have hok : BlkOk X.N X.env.scope scope (ownOf N l.vs) := by
    rw [g.hN, g.hsc]; exact blkOk_by hblk
  -- the target's rule, once for all blocks
  have tgs := fun (s : Shared) (H : Hp) (C : Addr) (cl : List (Str × Addr)) (fp : List Addr) => l.tg.snd (X := X.blk s H scope (compEnvC scope cl C X.env) fp) (N := N) (sc := relS scope sc) (st := true) (x := t) g.hN g.nd (by rw [← g.hsc]; rfl) hc (fun z => by cases z) htg
  let gg : TG := fun v σ H Q => ∀ (s : Shared) (H' : Hp) (C : Addr) (cl : List (Str × Addr)) (fp : List Addr), (tgs s H' C cl fp).choose v σ H Q
  have hgg : ∀ (s : Shared) (H : Hp) (C : Addr) (cl : List (Str × Addr)) (fp : List Addr), PG (X.blk s H scope (compEnvC scope cl C X.env) fp) t gg := fun s H C cl fp =>
    ⟨fun pins s1 σ H1 v u Q I r q => (tgs s H C cl fp).choose_spec.1.run pins s1 σ H1 v u Q I r (q s H C cl fp)⟩
  have kgg : ∀ (t : T) (v : V) (fo : List Addr) (σ : L2.St) (H : Hp) (ρ ρ' : Rho) (fp : Fp) (Q : L2.St → Hp → Prop), Env X.K ρ fp σ H → Rep X.K H t v fo → fo.Nodup → (∀ a ∈ fo, ¬ In fp a) → l.tg.sem t ρ = some ρ' →
      (∀ σ' fp', Env X.K ρ' fp' σ' H → ((∀ a, In fp' a → In fp a ∨ a ∈ fo) ∧ ∀ i, i ∉ l.tg.asg → fp' i = fp i) → Agree l.tg.asg σ σ' → Q σ' H) → gg v σ H Q := fun t v fo σ H ρ ρ' fp Q e r nd d hs k s H' C cl fp' => (tgs s H' C cl fp').choose_spec.2 t v fo σ H ρ ρ' fp Q e r nd d hs k
  have hpts : ∀ (s : Shared) (H : Hp) (C : Addr) (cl : List (Str × Addr)) (fp : List Addr), PTs (X.blk s H scope (compEnvC scope cl C X.env) fp) ifs (tT X.K xi W0 l.tt) := fun s H C cl fp => by
    obtain ⟨vs, tg, it, lifs, el⟩ := l
    cases lifs with
    | none =>
      cases ifs with
      | cons => cases hif
      | nil =>
        refine ⟨fun pins s1 σ H1 Q I q => pts_nil.run pins s1 σ H1 Q I ?_⟩
        obtain ⟨ρ, fp, e, q⟩ := q
        exact q H1 fp e Step.refl fun _ => Quiet.refl
    | some b =>
      cases ifs with
      | nil => cases hif
      | cons c r =>
        cases r with
        | cons => cases hif
        | nil => exact pts_one (b.snd (gd_blk g s H scope C cl fp) p.2.2 hif)
  refine ⟨ha, hc, hns, hok, wi, gg, tT X.K xi W0 l.tt, tE X.K xi W0 l.el.sem, hi, hgg, hpts, fun s H C cl fp => l.el.snd (gd_blk g s H scope C cl fp) p.2.1 hel, fun σ H Q hq => ?_⟩
  rw [own_snd]
  refine ik σ H _ ?_
  obtain ⟨ρ, fp, e, hq⟩ := hq
  refine ⟨ρ, fp, e, ?_⟩
  simp only [Lc.sem, lcSem] at hq
  cases hs : l.it.sem ρ with
  | stuck => rw [hs] at hq; exact hq
  | ex c t ρ' => rw [hs] at hq; exact hq
  | ok items ρ' τ w =>
    rw [hs] at hq
    simp only at hq
    by_cases hcalm : calmAt ρ' l.vs = true
    case neg => rw [if_neg hcalm] at hq; exact hq.elim
    rw [if_pos hcalm] at hq
    intro J H1 fp1 e1 s1 q1 sv D hD
    have fpe : fpW fp1 l.vs = fp1 := calm_fp e1 hcalm
    have e1w := e1.wiped l.vs
    rw [fpe] at e1w
    cases hl : lcF l.tg.sem l.tt l.el.sem l.vs items [] (wipeR ρ' l.vs) false with
    | stuck => rw [hl] at hq; exact hq.elim
    | ok acc0 ρ0 τ0 =>
      rw [hl] at hq
      simp only at hq
      by_cases hw : w = true ∧ τ0 = true
      case pos => rw [if_pos hw] at hq; exact hq.elim
      rw [if_neg hw] at hq
      -- the invariant
      let I : Nat → Hp → Prop := fun i H2 => i ≤ items.length ∧ ∃ (ρ2 : Rho) (fp2 : Fp) (acc : List T) (accV : List V) (gs : List Addr) (τ2 : Bool), Env X.K ρ2 fp2 (wipe σ l.vs) H2 ∧ H2 D = some (.lst accV) ∧ Reps X.K H2 acc accV gs ∧ (D :: gs).Nodup ∧ (∀ a ∈ D :: gs, ¬ In fp2 a) ∧
        Step fp1 H1 fp2 (D :: gs) H2 ∧ (τ2 = false → ρ2 = wipeR ρ' l.vs ∧ fp2 = fp1 ∧ ∀ a o, H1 a = some o → H2 a = some o) ∧ (∀ j ∈ l.vs, ∀ t, ρ2[j]? ≠ some (some t)) ∧ lcF l.tg.sem l.tt l.el.sem l.vs (items.drop i) acc ρ2 τ2 = .ok acc0 ρ0 τ0
      have kD : ∀ a o, H1 a = some o → upd H1 D (.lst []) a = some o := fun a o z => by rw [upd_ne (ne_of_none z hD)]; exact z
      have nDfp : ¬ In fp1 D := fun z => by
        obtain ⟨xs, z⟩ := e1.own D z
        rw [hD] at z; cases z
      have wnone : ∀ (ρ : Rho), ∀ j ∈ l.vs, ∀ t, (wipeR ρ l.vs)[j]? ≠ some (some t) := fun ρ j hj t z => by
        by_cases hlt : j < ρ.length
        · rw [wipeR_in hj hlt] at z; cases z
        · rw [List.getElem?_eq_none (by rw [wipeR_length]; omega)] at z; cases z
      refine ⟨fun i m H2 => m = items.length - i ∧ I i H2, ⟨items.length, rfl, Nat.zero_le _, wipeR ρ' l.vs, fp1, [], [], [], false, e1w.ext kD, upd_same, ⟨rfl, rfl⟩, List.nodup_cons.mpr ⟨fun z => (by cases z), List.nodup_nil⟩, fun a z => ?_, ⟨fun a o z n => kD a o z, fun a z => ?_, List.nodup_cons.mpr ⟨fun z => (by cases z), List.nodup_nil⟩, fun a z => ?_⟩, fun _ => ⟨rfl, rfl, kD⟩, wnone ρ', by simpa using hl⟩, ?_⟩
      · have : a = D := by simpa using z
        subst this; exact nDfp
      · rcases z with z | z
        · exact .inl z
        · have : a = D := by simpa using z
          subst this; exact .inr hD
      · have : a = D := by simpa using z
        subst this; exact nDfp
      rintro i m H2 ⟨rfl, hle, ρ2, fp2, acc, accV, gs, τ2, e2, hD2, racc, ndD, djD, s2, qq, hnone, hlc⟩
      -- w: nothing has changed
      have keepIt : Keep (if w = true then fun _ => False else In fp1) H1 H2 := by
        cases w with
        | false => simpa using s2.keep
        | true =>
          have t0 : τ0 = false := by
            cases τ0 with
            | false => rfl
            | true => exact absurd ⟨rfl, rfl⟩ hw
          have t2 := lcF_tau hlc t0
          exact fun a o z _ => (qq t2).2.2 a o z
      obtain ⟨sgo, sstop⟩ := sv i H2 keepIt
      by_cases hlt : i < items.length
      · have hi' : items[i]? = some items[i] := List.getElem?_eq_getElem hlt
        obtain ⟨go, yl⟩ := sgo _ hi'
        refine .inr ⟨go, fun H3 => I (i + 1) H3, fun H3 z => ⟨items.length - (i + 1), by omega, rfl, z⟩, fun x H3 y => ?_⟩
        obtain ⟨k3, r3⟩ := yl x H3 y
        rw [List.drop_eq_getElem_cons hlt] at hlc
        simp only [lcF] at hlc
        cases ht : l.tg.sem items[i] ρ2 with
        | none => rw [ht] at hlc; cases hlc
        | some ρ3 =>
          rw [ht] at hlc
          simp only at hlc
          obtain ⟨tl, tout⟩ := l.tg.loc ht
          refine kgg _ x [] (wipe σ l.vs) H3 ρ2 ρ3 fp2 _ (e2.ext k3) r3 List.nodup_nil (fun _ z => by cases z) ht fun σ3 fp3 e3 ⟨hin, hfp⟩ ag3 => ?_
          have asgIn : ∀ j, j ∉ l.vs → j ∉ l.tg.asg := fun j hj z => hj (by simpa using hasg j z)
          have ws : wipe σ3 l.vs = wipe σ l.vs := by
            rw [wipe_same (σ := wipe σ l.vs) (by rw [e3.len, tl, ← e2.len]) fun j hj => ag3 j (asgIn j hj), wipe_wipe]
          refine ⟨ws, ρ3, fp3, e3, ?_⟩
          have D3 : H3 D = some (.lst accV) := k3 D _ hD2
          have hin3 : ∀ a, In fp3 a → In fp2 a := fun a z => (hin a z).elim id fun z => by cases z
          have s3 : Step fp2 H2 fp3 [] H3 := ⟨fun a o z n => k3 a o z, fun a z => .inl (z.elim (hin3 a) fun z => by cases z), List.nodup_nil, fun _ z => by cases z⟩
          -- the new rest behind a turn
          have next : ∀ {ρ5 : Rho} {fp5 : Fp} {H5 : Hp} {τ5 : Bool} {acc5 : List T} {accV5 : List V} {gs5 : List Addr}, Env X.K ρ5 fp5 σ3 H5 → H5 D = some (.lst accV5) → Reps X.K H5 acc5 accV5 gs5 → (D :: gs5).Nodup → (∀ a ∈ D :: gs5, ¬ In fp5 a) →
              Step fp1 H1 fp5 (D :: gs5) H5 → (τ5 = false → wipeR ρ5 l.vs = wipeR ρ' l.vs ∧ fpW fp5 l.vs = fp1 ∧ ∀ a o, H1 a = some o → H5 a = some o) → lcF l.tg.sem l.tt l.el.sem l.vs (items.drop (i + 1)) acc5 (wipeR ρ5 l.vs) τ5 = .ok acc0 ρ0 τ0 → I (i + 1) H5 := fun {ρ5 fp5 H5 τ5 acc5 accV5 gs5} e5 d5 ra nd5 dj5 s5 q5 h5 => by
            have e5w := e5.wiped l.vs
            rw [ws] at e5w
            exact ⟨hlt, wipeR ρ5 l.vs, fpW fp5 l.vs, acc5, accV5, gs5, τ5, e5w, d5, ra, nd5, fun a z w => dj5 a z (in_fpW w), ⟨s5.keep, fun a z => s5.sub a (z.imp in_fpW id), s5.nd, fun a z w => s5.dj a z (in_fpW w)⟩, q5, wnone ρ5, h5⟩
          have dj3 : ∀ a ∈ D :: gs, ¬ In fp3 a := fun a z w => djD a z (hin3 a w)
          have r3acc := racc.ext k3
          have s03 : Step fp1 H1 fp3 (D :: gs) H3 := by
            have := s2.trans (fun a z => by
              rcases List.mem_cons.mp z with rfl | z
              · rw [hD2]; exact fun z => by cases z
              · obtain ⟨xs, w⟩ := racc.own a z
                rw [w]; exact fun z => by cases z) s3
            simpa using this
          have q3 : τ2 = false → wipeR ρ3 l.vs = wipeR ρ' l.vs ∧ fpW fp3 l.vs = fp1 ∧ ∀ a o, H1 a = some o → H3 a = some o := fun z => by
            obtain ⟨z1, z2, z3⟩ := qq z
            refine ⟨?_, ?_, fun a o w => k3 a o (z3 a o w)⟩
            · rw [wipeR_same tl fun j hj => tout j (asgIn j hj), z1, wipeR_same (wipeR_length _ _) fun j hj => wipeR_out hj]
            · funext j
              by_cases hj : j ∈ l.vs
              · have := congrFun fpe j
                simp only [fpW, if_pos (show l.vs.contains j = true by simpa using hj)] at this ⊢
                exact this
              · simp only [fpW, if_neg (show ¬ l.vs.contains j = true by simpa using hj)]
                rw [hfp j (asgIn j hj), z2]
          have memD : D ∈ D :: gs := List.mem_cons_self
          cases htt : l.tt ρ3 with
          | stuck => rw [htt] at hlc; cases hlc
          | ex c t ρ4 => rw [htt] at hlc; cases hlc
          | ok k ρ4 τ4 =>
            rw [htt] at hlc
            simp only at hlc
            intro H4 fp4 e4 s4 q4
            have D4 : H4 D = some (.lst accV) := s4.keep D _ D3 (dj3 D memD)
            have r4 := Reps.keep s4.keep e3.own (fun a h => dj3 a (List.mem_cons_of_mem _ h)) r3acc
            have own4 : ∀ a ∈ D :: gs, H3 a ≠ none := fun a z => by
              rcases List.mem_cons.mp z with rfl | z
              · rw [D3]; exact fun z => by cases z
              · obtain ⟨xs, w⟩ := r3acc.own a z
                rw [w]; exact fun z => by cases z
            have s04 : Step fp1 H1 fp4 (D :: gs) H4 := by simpa using s03.trans own4 s4
            have q04 : (τ2 || τ4) = false → wipeR ρ4 l.vs = wipeR ρ' l.vs ∧ fpW fp4 l.vs = fp1 ∧ ∀ a o, H1 a = some o → H4 a = some o := fun z => by
              simp only [Bool.or_eq_false_iff] at z
              obtain ⟨z1, z2, z3⟩ := q3 z.1
              obtain ⟨rfl, rfl, z6⟩ := q4 z.2
              exact ⟨z1, z2, fun a o w => z6 a o (z3 a o w)⟩
            cases k with
            | false =>
              rw [if_neg Bool.false_ne_true] at hlc ⊢
              exact next e4 D4 r4 ndD s04.dj s04 q04 hlc
            | true =>
              rw [if_pos rfl] at hlc ⊢
              refine ⟨ρ4, fp4, e4, ?_⟩
              cases hel : l.el.sem ρ4 with
              | stuck => rw [hel] at hlc; cases hlc
              | ex c t ρ5 => rw [hel] at hlc; cases hlc
              | ok o ρ5 τ5 =>
                rw [hel] at hlc
                cases o with
                | p i q => cases hlc
                | v y =>
                  simp only at hlc
                  split at hlc
                  case isFalse => cases hlc
                  rename_i hlen
                  intro v H5 fp5 fo5 e5 s5 q5 r5
                  have r5 : Rep X.K H5 y v fo5 := r5
                  have D5 : H5 D = some (.lst accV) := s5.keep D _ D4 (s04.dj D memD)
                  have ra5 := Reps.keep s5.keep e4.own (fun a h => s04.dj a (List.mem_cons_of_mem _ h)) r4
                  have own5 : ∀ a ∈ D :: gs, H4 a ≠ none := fun a z => by
                    rcases List.mem_cons.mp z with rfl | z
                    · rw [D4]; exact fun z => by cases z
                    · obtain ⟨xs, w⟩ := r4.own a z
                      rw [w]; exact fun z => by cases z
                  have s05 : Step fp1 H1 fp5 ((D :: gs) ++ fo5) H5 := s04.trans own5 s5
                  have ndAll : ((D :: gs) ++ fo5).Nodup := s05.nd
                  have nD : D ∉ gs ++ fo5 := (List.nodup_cons.mp ndAll).1
                  refine ⟨accV, D5, by rw [racc.len]; exact hlen, ?_⟩
                  have kp : Keep (· = D) H5 (upd H5 D (.lst (accV ++ [v]))) := upd_keep
                  have nDfp5 : ¬ In fp5 D := s05.dj D (by simp)
                  refine next (gs5 := gs ++ fo5) (e5.upd D5 nDfp5) upd_same (Reps.append (Reps.keep kp (lists_one D5) (fun a h z => nD (by rw [← z]; exact List.mem_append_left _ h)) ra5) (Reps.one (Rep.keep kp (lists_one D5) (fun a h z => nD (by rw [← z]; exact List.mem_append_right _ h)) r5))) ndAll s05.dj ⟨fun a o z n => ?_, fun a z => ?_, ndAll, s05.dj⟩ (fun z => ?_) hlc
                  · have : a ≠ D := fun w => by rw [w, hD] at z; cases z
                    rw [upd_ne this]; exact s05.keep a o z n
                  · exact s05.sub a z
                  · simp only [Bool.or_eq_false_iff] at z
                    obtain ⟨z1, z2, z3⟩ := q04 (by simp [z.1, z.2.1])
                    obtain ⟨rfl, rfl, z6⟩ := q5 z.2.2
                    refine ⟨z1, z2, fun a o w => ?_⟩
                    have : a ≠ D := fun q => by rw [q, hD] at w; cases w
                    rw [upd_ne this]; exact z6 a o (z3 a o w)
      · have ei : i = items.length := by omega
        subst ei
        rw [List.drop_length] at hlc
        simp only [lcF] at hlc
        cases hlc
        refine .inl ⟨sstop (Nat.le_refl _), ?_⟩
        refine hq (.ref D) H2 fp2 (D :: gs) (e1.unwiped e2 hcalm s2 hnone) (s1.trans0 s2) (fun z => ?_) ⟨D, accV, gs, rfl, rfl, hD2, racc⟩
        simp only [Bool.or_eq_false_iff] at z
        obtain ⟨rfl, rfl, z3⟩ := q1 z.1
        obtain ⟨rfl, rfl, z4⟩ := qq z.2
        exact ⟨unwipe_wipe _ _, rfl, fun a o w => z4 a o (z3 a o w)⟩
def eLc (l : Lc) : Ex where
  sem := l.sem
  m := l.m
  pre := l.pre
  snd := fun {X xi N sc lvl cm W x} g p h => by
    cases x <;> first | (cases h; done) | skip
    rename_i elt gens scope pos
    rcases gens with _ | ⟨⟨t, iter, ifs, a⟩, _ | ⟨c2, gens⟩⟩
    · cases h
    · obtain ⟨rfl, hc, hns, hok, wi, gg, tt, te, hi, hg, ht, he, w⟩ := l.parts g p h
      exact PE.to (pe_lc hc (by rw [g.hN]; exact g.nd) hi hok hg ht he (folded_of hns)) fun σ H Q hq => w σ H Q hq
    · cases h
/-- name = [..] on one line -/
def sSetLc (i : Nat) (l : Lc) : Sx where
  sem := asgS (gN i).sem l.sem
  asg := [i]
  m := fun N sc cm s => match s with
    | .Assign [.Name y py] (.ListComp elt gens scope pos) spos => decide (N[i]? = some y) && (decide (sc.kind = .function) && (decide (sc.names.lookup y = some .local) && ((py.line == pos.line) && (!(scope.names.any fun (n, k) => n == y && (k == .local || k == .cell)) && l.m N sc cm (.ListComp elt gens scope pos)))))
    | _ => false
  pre := l.pre
  snd := fun {X xi N sc lvl cm W x} g p h => by
    split at h
    · rename_i y py elt gens scope pos spos
      simp only [Bool.and_eq_true, decide_eq_true_eq, Bool.not_eq_true'] at h
      obtain ⟨h1, h2, h3, h4, h5, hm⟩ := h
      rcases gens with _ | ⟨⟨t, iter, ifs, a⟩, _ | ⟨c2, gens⟩⟩
      · cases hm
      · obtain ⟨rfl, hc, hns, hok, wi, gg, tt, te, hi, hg, ht, he, w⟩ := l.parts g.toGd p hm
        refine PS.to (ps_setLc hc (by rw [g.hN]; exact g.nd) (by rw [g.hN]; exact h1) (by rw [g.hsc]; exact h3) (sw_true (by rw [g.hsc]; exact h2) (by rw [g.hsc]; exact h3) h4 h5) hi hok hg ht he (folded_of hns)) fun D σ H hq => ?_
        refine w σ H _ ?_
        obtain ⟨ρ, fp, e, hq⟩ := hq
        refine ⟨ρ, fp, e, ?_⟩
        simp only [asgS] at hq
        cases hs : l.sem ρ with
        | stuck => rw [hs] at hq; exact hq
        | ex c t ρ' => rw [hs] at hq; exact fun d H' fp' e' s' x => hq d σ H' fp' e' s' Agree.refl x
        | ok o ρ' τ =>
          rw [hs] at hq
          cases o with
          | p i q => exact hq.elim
          | v t =>
            simp only at hq
            cases ht : (gN i).sem t ρ' with
            | none => rw [ht] at hq; exact hq.elim
            | some ρ2 =>
              rw [ht] at hq
              intro v H' fp' fo e' s' q' r'
              simp only [gN] at ht
              split at ht
              · rename_i hl
                cases ht
                exact asg_fin hq s' (e'.set i r' s'.nd s'.dj hl) (fun a z => (in_set z).elim .inr .inl) fun j hj => List.getElem?_set_ne (by simpa using Ne.symm (by simpa using hj))
              · cases ht
      · cases hm
    · cases h
end Pv
set_option Elab.async false
set_option linter.all false
set_option maxRecDepth 100000
set_option maxHeartbeats 2000000
/-! Pv part L: defs. -/
namespace Pv
open PySem L2

/-- what the arguments' trees are behind the call -/
def back : List T → Nat → Rho → Rho
  | [], _, _ => []
  | t :: ts, i, ρ => (if t.imm = true then some t else (ρ[i]?).getD none) :: back ts (i + 1) ρ
theorem back_get : ∀ (ts : List T) (ρ : Rho) (i j : Nat), (back ts i ρ)[j]? = (ts[j]?).map fun t => if t.imm = true then some t else (ρ[i + j]?).getD none
  | [], _, _, _ => by simp [back]
  | t :: ts, ρ, i, 0 => by simp [back]
  | t :: ts, ρ, i, j + 1 => by
    simp only [back, List.getElem?_cons_succ]
    rw [back_get ts ρ (i + 1) j, show i + (j + 1) = i + 1 + j by omega]
theorem back_len : ∀ (ts : List T) (ρ : Rho) (i : Nat), (back ts i ρ).length = ts.length
  | [], _, _ => rfl
  | t :: ts, ρ, i => by simp [back, back_len ts ρ (i + 1)]
/-- a parameter whose tree may change keeps its value -/
def calmArgs (asg : List Nat) : Nat → List T → Bool
  | _, [] => true
  | i, t :: ts => (t.imm || !asg.contains i) && calmArgs asg (i + 1) ts
theorem calm_args {asg : List Nat} : ∀ {ts : List T} {i j : Nat} {t : T}, calmArgs asg i ts = true → ts[j]? = some t → t.imm = true ∨ i + j ∉ asg
  | [], i, j, t, _, h => by simp at h
  | a :: ts, i, j, t, c, h => by
    simp only [calmArgs, Bool.and_eq_true, Bool.or_eq_true, Bool.not_eq_true'] at c
    cases j with
    | zero =>
      simp only [List.getElem?_cons_zero, Option.some.injEq] at h
      subst h
      exact c.1.imp id fun z => by simpa using z
    | succ j =>
      have z := calm_args (i := i + 1) (j := j) c.2 (by simpa using h)
      rw [show i + (j + 1) = i + 1 + j by omega]
      exact z
def fnRes (ts : List T) : RS → FR
  | .nx ρ => .ok .non (back ts 0 ρ)
  | .ret t ρ => .ok t (back ts 0 ρ)
  | .ex c t ρ => .ex c t (back ts 0 ρ)
  | _ => .stuck
def fnSem (n : Nat) (b : Bl) : List T → FR := fun ts => if calmArgs b.asg 0 ts = true then fnRes ts (b.sem (ts.map some ++ List.replicate (n - ts.length) none)) else .stuck

section
variable {K : PySem.W.Frag} {xi : XI} {H H' : Hp} {fp fp' : Fp} {ts : List T} {vs : List V} {ρ' : Rho} {σ σ' : L2.St} {n : Nat} {fo : List Addr}
theorem start_env {N : List Str} (e : Env K (ts.map some) fp (vs.map some) H) : Env K (ts.map some ++ List.replicate (N.length - ts.length) none) fp (L2.start N vs) H := by
  have hl : vs.length = ts.length := by have := e.len; simpa using this
  refine ⟨by simp [L2.start, hl], fun i t h => ?_, fun i h => ?_, e.nd, e.dj⟩
  · by_cases c : i < ts.length
    · rw [List.getElem?_append_left (by simpa using c)] at h
      obtain ⟨v, hv, r⟩ := e.rep i t h
      exact ⟨v, by unfold L2.start; rw [List.getElem?_append_left (by simpa [hl] using c)]; exact hv, r⟩
    · rw [List.getElem?_append_right (by simpa using c)] at h
      have := List.mem_of_getElem? h
      have := List.eq_of_mem_replicate this
      cases this
  · refine e.emp i fun t ht => h t ?_
    have c : i < (ts.map some).length := by
      rcases Nat.lt_or_ge i (ts.map some).length with z | z
      · exact z
      · rw [List.getElem?_eq_none z] at ht; cases ht
    rw [List.getElem?_append_left c]
    exact ht
/-- the footprint of the parameters that may change -/
def fpB (ts : List T) (fp : Fp) : Fp := fun j => match ts[j]? with
  | some t => if t.imm = true then [] else fp j
  | none => []
theorem in_fpB {a : Addr} (h : In (fpB ts fp) a) : In fp a := by
  obtain ⟨j, h⟩ := h
  unfold fpB at h
  split at h
  · split at h
    · cases h
    · exact ⟨j, h⟩
  · cases h
theorem back_env {N : List Str} {asg : List Nat} (e : Env K (ts.map some) fp (vs.map some) H) (e' : Env K ρ' fp' σ' H') (s : Step fp H fp' fo H') (ag : Agree asg (L2.start N vs) σ') (c : calmArgs asg 0 ts = true) :
    Env K (back ts 0 ρ') (fpB ts fp') (vs.map some) H' := by
  have hl : vs.length = ts.length := by have := e.len; simpa using this
  refine ⟨by rw [back_len]; simpa using hl, fun j t h => ?_, fun j h => ?_, fun j => ?_, fun i j a h1 h2 => ?_⟩
  · rw [back_get] at h
    cases ht : ts[j]? with
    | none => rw [ht] at h; cases h
    | some t0 =>
      rw [ht] at h
      simp only [Option.map_some, Option.some.injEq, Nat.zero_add] at h
      have hj : j < ts.length := by
        rcases Nat.lt_or_ge j ts.length with z | z
        · exact z
        · rw [List.getElem?_eq_none z] at ht; cases ht
      unfold fpB
      simp only [ht]
      obtain ⟨v, hv, r⟩ := e.rep j t0 (by rw [List.getElem?_map, ht]; rfl)
      by_cases ci : t0.imm = true
      · rw [if_pos ci] at h ⊢
        cases h
        rw [r.imm_nil ci] at r
        exact ⟨v, hv, Rep.keep s.keep e.own (fun _ z => by cases z) r⟩
      · rw [if_neg ci] at h ⊢
        have hr : ρ'[j]? = some (some t) := by
          cases q : ρ'[j]? with
          | none => rw [q] at h; cases h
          | some o => rw [q] at h; exact congrArg some h
        obtain ⟨v', hv', r'⟩ := e'.rep j t hr
        refine ⟨v', ?_, r'⟩
        have na : j ∉ asg := by
          rcases calm_args c ht with z | z
          · exact absurd z ci
          · simpa using z
        rw [← hv', ag j na]
        unfold L2.start
        rw [List.getElem?_append_left (by simpa [hl] using hj)]
  · unfold fpB
    cases ht : ts[j]? with
    | none => rfl
    | some t0 =>
      simp only
      by_cases ci : t0.imm = true
      · rw [if_pos ci]
      · rw [if_neg ci]
        refine e'.emp j fun t q => h t ?_
        rw [back_get, ht, Option.map_some, if_neg ci, Nat.zero_add, q]
        rfl
  · unfold fpB
    split
    · split
      · exact .nil
      · exact e'.nd j
    · exact .nil
  · unfold fpB at h1 h2
    split at h1
    · split at h1
      · cases h1
      · split at h2
        · split at h2
          · cases h2
          · exact e'.dj i j a h1 h2
        · cases h2
    · cases h1
theorem step_fpB (s : Step fp H fp' fo H') : Step fp H (fpB ts fp') fo H' := ⟨s.keep, fun a z => s.sub a (z.imp in_fpB id), s.nd, fun a z w => s.dj a z (in_fpB w)⟩
end

/-- a def, its text st, its body read by b -/
structure DefOk (st : Stmt) (N ps : List Str) (b : Bl) : Prop where
  sc : FnScope N ps (defScope st)
  m : b.m N (defScope st) true (defBody st) = true
theorem ok_def {P : Program} {w : World} {K : PySem.W.Frag} {mg : Str → Option Value} {base : Heap} {xi : XI} {x qual : Str} {st : Stmt} {f : Addr} {fd : FuncData} {N ps : List Str} {k : Nat} {b : Bl} (F : L2.Fun K x qual st f fd) (D : DefOk st N ps b) (p : b.pre ⟨P, w, K, mg, base, xi⟩ k) :
    FnOk P w K mg base (L2.CX P w) (k + 1) f fd ps (spF K xi ps.length (fnSem N.length b)) := by
  refine F.okX D.sc (fun vs H Q E h => ?_) (fun cdv A outer s H vs Q E hr h => ⟨tS K xi (fun cls d _ H => E cls d H) b.asg b.sem, ?_, ?_⟩)
  · obtain ⟨ts, fp, hl, e, _⟩ := h
    have := e.len
    rw [List.length_map, List.length_map] at this
    omega
  · refine b.snd (X := cxOf (L2.CX P w) P w K mg base N qual (defScope st) f cdv A outer s H E) (lvl := k) (cm := true) ⟨⟨rfl, D.sc.nd, rfl, fun _ => rfl, fun _ => hr, ?_, takes_of rfl rfl rfl rfl⟩, ?_, passes_of rfl, rfl, rfl⟩ p D.m
    · have := hr.un
      show (A.deeper _).units + 100 < cLine
      omega
    · exact fun y _ => .inl rfl
  · obtain ⟨ts, fp, hl, e, hq⟩ := h
    refine ⟨_, fp, start_env e, ?_⟩
    unfold fnSem at hq
    by_cases c : calmArgs b.asg 0 ts = true
    case neg => rw [if_neg c] at hq; exact hq.elim
    rw [if_pos c] at hq
    cases hs : b.sem (ts.map some ++ List.replicate (N.length - ts.length) none) with
    | stuck => rw [hs] at hq; exact hq.elim
    | bk ρ' => rw [hs] at hq; exact hq.elim
    | ct ρ' => rw [hs] at hq; exact hq.elim
    | nx ρ' =>
      rw [hs] at hq
      exact fun σ' H' fp' e' s' ag => hq .non H' _ [] (back_env e e' s' ag c) (step_fpB s') ⟨rfl, rfl⟩
    | ret t ρ' =>
      rw [hs] at hq
      exact fun v σ' H' fp' fo e' s' ag r => hq v H' _ fo (back_env e e' s' ag c) (step_fpB s') r
    | ex cc t ρ' =>
      rw [hs] at hq
      exact fun d σ' H' fp' e' s' ag x => hq d H' _ (back_env e e' s' ag c) (step_fpB s') x
/-- .. as a promise at a level -/
theorem has_def {P : Program} {w : World} {K : PySem.W.Frag} {mg : Str → Option Value} {base : Heap} {xi : XI} {x : Str} {st : Stmt} {f : Addr} {fd : FuncData} {N ps : List Str} {k : Nat} {b : Bl} (F : L2.Fun K x x st f fd) (B : Binds K fd ps []) (g : mg x = some (.ref f)) (D : DefOk st N ps b) (p : b.pre ⟨P, w, K, mg, base, xi⟩ k) :
    Has ⟨P, w, K, mg, base, xi⟩ (k + 1) ⟨x, ps.length, fnSem N.length b⟩ := ⟨f, fd, ps, g, F.kp, B, ok_def F D p⟩
end Pv
set_option Elab.async false
set_option linter.all false
set_option maxRecDepth 100000
set_option maxHeartbeats 2000000
/-! Pv part M: own exceptions: class C(.. ValueError): __init__(self, f): super().__init__('msg'); self.f = f. -/
namespace PySem
namespace OwnX
open PySem.W PySem.Calls PyProof.Rows PySem.HandSPX
def iA (f : Str) (p1 p2 : Pos) : Arguments := { posonlyargs := [], args := [{ arg := "self", annotation := none, pos := p1 }, { arg := f, annotation := none, pos := p2 }], vararg := none, kwonlyargs := [], kw_defaults := [], kwarg := none, defaults := [] }
def iB (f msg : Str) (k : Nat) (a1 a2 a3 a4 a5 a6 q1 q2 q3 q4 : Pos) : List Stmt :=
  [.Expr (.Call (.Attribute (.Call (.Name "super" a1) [] [] a2) "__init__" a3) [.Constant (.str msg) k a4] [] a5) a6, .Assign [.Attribute (.Name "self" q1) f q2] (.Name f q3) q4]
def iS (f : Str) : Scope := { kind := .function, names := [("self", .local), (f, .local), ("__class__", .free), ("super", .globalImplicit)], isGenerator := false, isCoroutine := false, more := [] }
/-- what the written part says of the class at C, and of its __init__, at fI -/
structure Txt (K : Frag) (p : Program) (mg : Str → Option Value) (cn qual f msg : Str) (C fI cc cda : Addr) : Prop where
  gC : mg cn = some (.ref C)
  sup : mg "super" = none
  cls : ∃ nm q N bs bm sn sub ab col dd k0 k1 k2 k3 k5, K.lookup C = some (excClassObj nm q C N bs bm true sn sub ab col dd k0 k1 k2 k3 k5 "ValueError.__new__") ∧ refsVE bm = true
  sa : findIn K (.ref C) "__setattr__" = some (some (.builtin "object.__setattr__"))
  ga : findIn K (.ref C) "__getattribute__" = some (some (.builtin "BaseException.__getattribute__"))
  gg : findIn K (.ref C) "__getattr__" = some none
  noN : findIn K (.ref C) f = some none
  iC : findIn K (.ref C) "__init__" = some (some (.ref fI))
  tC : typeIn K (.ref fI) = some (.type "function")
  kC : keepIn K (.ref C) = true
  exC : subIn K (.ref C) (.type "BaseException") = some true
  tyC : typeIn K (.ref C) = some (.type "type")
  hdC : hasDictIn K C = true
  te : exmOne K (.ref C) (.ref C) = some true
  sub : mroIn K C (.ref C) = some true
  subV : subIn K (.ref C) (.type "ValueError") = some true
  opq : nsIn K cStatics "thirdparty.any" = some none
  hm : ks_superIn K C C "__init__" = some (some (.builtin "ValueError.__init__"))
  htop : (p.main.scope.names.lookup ("super" : Str)).isSome = false
  cell : ∃ cl cld csl, K.lookup cc = some ⟨cl, cld, .cell (some (.ref C)), csl⟩
  code : ∃ ccl cdd vs ccs file tf, K.lookup cda = some ⟨ccl, cdd, .fields vs, ccs⟩ ∧ vs[2]? = some (.str file tf) ∧ ((p.main.file : Str) == file) = true
  fn : ∃ (oc : Value) (od : Option Addr) (doc pm : Value) (an : Option Addr) (ct : Value) (osl : Array (Option Value)) (k : Nat) (p1 p2 a1 a2 a3 a4 a5 a6 q1 q2 q3 q4 : Pos), (a3.endLine == a5.line) = true ∧
    K.lookup fI = some ⟨oc, od, .func (ksFn "__init__" qual (iA f p1 p2) (iB f msg k a1 a2 a3 a4 a5 a6 q1 q2 q3 q4) (iS f) .none .none doc pm an (.ref cda) ct cc), osl⟩ ∧ codeIn K (.ref cda) qual = true
  bnd : ∀ (doc pm : Value) (an : Option Addr) (ct : Value) (k : Nat) (p1 p2 a1 a2 a3 a4 a5 a6 q1 q2 q3 q4 : Pos) (x v : Value),
    bindArgs (ksFn "__init__" qual (iA f p1 p2) (iB f msg k a1 a2 a3 a4 a5 a6 q1 q2 q3 q4) (iS f) .none .none doc pm an (.ref cda) ct cc) ⟨[x, v], []⟩ = pure [(("self" : Str), x), (f, v)]
  f1 : (f == ("self" : Str)) = false
  f2 : (("self" : Str) == f) = false
  f3 : (f == ("__debug__" : Str)) = false
  f4 : (f == ("__class__" : Str)) = false
  f5 : (f == ("super" : Str)) = false
  f6 : (("__class__" : Str) == f) = false
  f7 : (("super" : Str) == f) = false
/-- what __init__ leaves of a fresh exception at x -/
structure InitEnd (h h' : Heap) (x C dx : Addr) (f : Str) (v : Value) : Prop where
  keep : ∀ b o, b ≠ x → h.get? b = some o → h'.get? b = some o
  obj : ∃ t1, h'.get? x = some { cls := .ref C, dict := some dx, data := .fields #[.ref t1, .none, .none, .none, .bool false, .none] }
  dbig : h.objs.size ≤ dx
  dne : dx ≠ x
  ns : h'.Ns1 dx (fun y => if y = f then some v else none)
/-- a made exception -/
structure OwnMade (h h' : Heap) (e C d : Addr) (f : Str) (v : Value) : Prop where
  keep : ∀ b o, h.get? b = some o → h'.get? b = some o
  new : h.objs.size ≤ e
  obj : ∃ oe vs, h'.get? e = some oe ∧ oe.cls = .ref C ∧ oe.dict = some d ∧ oe.data = .fields vs ∧ vs[1]? = some .none
  dbig : h.objs.size ≤ d
  dne : d ≠ e
  ns : h'.Ns1 d (fun y => if y = f then some v else none)
theorem one_size (v : Value) : [v].length ≤ sizeLine := by
  rw [sizeLine_eq]
  exact (by decide : 1 ≤ 16777216)
theorem ve_nodict {bm : List Value} (h : refsVE bm = true) : True := trivial
section
variable {prog : Program} {w : World} {A : Around} {E : Value → Shared → Prop} {R : Result → Shared → Prop} {s : Shared} {K : Frag} {mg : Str → Option Value} {cn qual f msg : Str} {C fI cc cda : Addr}
theorem own_mcall {o c : Expr} {m : Str} {apos pos : Pos} {env : Env} (hl : (apos.endLine == pos.line) = true) (hs : starEach [c] env = [(false, eval c env)]) :
    eval (.Call (.Attribute o m apos) [c] [] pos) env = (do
      let ov ← attributeBase o m env (eval o env)
      standAt apos.atName
      let (f, first) ← holding [ov] (getMethod ov m (do return (← importBound o env).getD true))
      callWith pos f first (backTo pos (starEach [c] env)) []) := by
  rw [arm_eval_Call]
  refine congrArg _ (funext fun ov => congrArg _ (funext fun _ => ?_))
  have hf : methodCallForm ([c].length + ([] : List Keyword).length) (backTo pos (starEach [c] env)) (backToKw pos (keywordEach [] env)) = true := by rw [hs]; rfl
  have e1 : calleeOf (methodCallForm ([c].length + ([] : List Keyword).length) (backTo pos (starEach [c] env)) (backToKw pos (keywordEach [] env))) o env ov m = getMethod ov m (do return (← importBound o env).getD true) := by
    rw [hf] <;> rfl
  have e2 : methodCallPos (methodCallForm ([c].length + ([] : List Keyword).length) (backTo pos (starEach [c] env)) (backToKw pos (keywordEach [] env))) o env apos pos = pure pos := by
    unfold methodCallPos
    exact if_pos (by rw [hl, Bool.or_true])
  unfold methodCall
  rw [e1, e2]
  first
    | rfl
    | simp only [pure_bind]
    | (simp only [pure_bind]; rfl)
/-- ValueError.__init__ bound to e, called -/
theorem call_mw {h : Heap} {g : Array GenState} {d : Drawn} {t : Nat} {os : OsState} {nm q : Str} {N : Addr} {bs bm : List Value} {hdct : Bool} {sn : List Str} {sub : List Value} {ab : Bool} {col : Option Bool} {dd : Option Addr} {k0 k1 k2 k3 k5 : Option Value}
    {u e t0 : Addr} {rest : List Value} {Q : Value → Shared → Prop} {E : Value → Shared → Prop}
    (hC : h.get? C = some (excClassObj nm q C N bs bm hdct sn sub ab col dd k0 k1 k2 k3 k5 "ValueError.__new__")) (he : h.get? e = some (excO C t0)) (hu : h.get? u = some (kxs_mw "ValueError.__init__" e)) (hrest : rest.length ≤ sizeLine)
    (hq : ∀ h' t1, (∀ b o, b ≠ e → h.get? b = some o → h'.get? b = some o) → h'.get? e = some (excO C t1) → Q .none ⟨h', g, d, t, os⟩) :
    wpAny (model prog w) A (call (.ref u) rest) Q E ⟨h, g, d, t, os⟩ := by
  refine wpAny_call (codeAny_of_tree ?_)
  show wpAny _ A.in1 (callAny (.ref u) ⟨rest, []⟩) _ _ _
  simp only [callAny]
  refine wpAny_bind (wpAny_load hu ?_)
  simp only [kxs_mw, show (Value.type "method-wrapper" == Value.type "method" || Value.type "method-wrapper" == Value.type "builtin_function_or_method" || Value.type "method-wrapper" == Value.type "method-wrapper") = true by decide, if_true]
  refine W.KFB.if_so (by decide) ?_
  refine wpAny_bind (check_bound_init F.excBase_ValueError.toExcCallFacts hC he rfl ?_)
  refine wpAny_bind (wpAny_pure (wpAny_pure ?_))
  refine ⟨plainId_quiet F.excBase_ValueError.init.plain _, codeAny_builtin F.excBase_ValueError.initEntry ?_⟩
  exact exc_init_tree (cls := .ref C) (t0 := t0) (dv := none) (c2 := .none) (c3 := .none) (b4 := .bool false) he hrest fun h' k' e' _ => hq h' _ k' e'
theorem own_init (T : Txt K prog mg cn qual f msg C fI cc cda) {x t0 : Addr} {v : Value} (X : K.In s.heap) (hlim : s.heap.NoLimit) (G : s.heap.Ns mainGlobals mg) (Bt : ∃ mb, s.heap.Ns builtinsNs mb ∧ mb "super" = some (.type "super"))
    (hx : s.heap.get? x = some (excO C t0)) (hnx : K.lookup x = none) (hroom : A.depth < recursionLimit)
    (hq : ∀ h' tk dx, InitEnd s.heap h' x C dx f v → R (.ok (.ret .none)) { s with heap := h', toks := tk }) :
    codeAny (model prog w) A (.call (.ref fI) ⟨[.ref x, v], []⟩) R s := by
  obtain ⟨oc, od, doc, pm, an, ct, osl, kk, p1, p2, a1, a2, a3, a4, a5, a6, q1, q2, q3, q4, hline, ho, hcd⟩ := T.fn
  obtain ⟨nm, q, N, bs, bm, sn, sub, ab, col, dd, k0, k1, k2, k3, k5, hC, hbm⟩ := T.cls
  obtain ⟨cl, cld, csl, hcell⟩ := T.cell
  obtain ⟨ccl, cdd, vs, ccs, file, tf, hcode, hvs, hfile⟩ := T.code
  obtain ⟨mb, hB, hbs⟩ := Bt
  have hcl : clsIn K C = some { name := nm, bases := bs, mro := .ref C :: bm, ns := N, qualname := q, hasDict := true, slotNames := sn, subclasses := sub, abstract := ab, collection := col, hasDel := false } := by unfold clsIn; rw [hC] <;> rfl
  have hm := T.hm
  unfold ks_superIn at hm
  rw [hcl] at hm
  have hxC : x ≠ C := fun z => by
    have e := X _ _ hC
    rw [← z, hx] at e
    cases e
  have l1 : (List.lookup f [(f, v), (("self" : Str), Value.ref x)]) = some v := List.lookup_cons_self
  have l2 : (List.lookup ("self" : Str) [(f, v), (("self" : Str), Value.ref x)]) = some (.ref x) := by unfold List.lookup; rw [T.f2]; exact List.lookup_cons_self
  have s1 : (iS f).names.lookup ("self" : Str) = some .local := rfl
  have s2 : (iS f).names.lookup f = some .local := by unfold iS List.lookup; rw [show (f == Str.ofString "self") = false from T.f1]; exact List.lookup_cons_self
  have s3 : (iS f).names.lookup ("__class__" : Str) = some .free := by
    show List.lookup ("__class__" : Str) ([("self", .local), (f, .local), ("__class__", .free), ("super", .globalImplicit)] : List (Str × NameKind)) = _
    rw [List.lookup_cons, show (Str.ofString "__class__" == Str.ofString "self") = false from rfl]
    show List.lookup ("__class__" : Str) ([(f, .local), ("__class__", .free), ("super", .globalImplicit)] : List (Str × NameKind)) = _
    rw [List.lookup_cons, show (Str.ofString "__class__" == f) = false from T.f6]
    rfl
  have s4 : (iS f).names.lookup ("super" : Str) = some .globalImplicit := by
    show List.lookup ("super" : Str) ([("self", .local), (f, .local), ("__class__", .free), ("super", .globalImplicit)] : List (Str × NameKind)) = _
    rw [List.lookup_cons, show (Str.ofString "super" == Str.ofString "self") = false from rfl]
    show List.lookup ("super" : Str) ([(f, .local), ("__class__", .free), ("super", .globalImplicit)] : List (Str × NameKind)) = _
    rw [List.lookup_cons, show (Str.ofString "super" == f) = false from T.f7]
    rfl
  refine ks_codeAny_call_defAt (fd := ksFn "__init__" qual (iA f p1 p2) (iB f msg kk a1 a2 a3 a4 a5 a6 q1 q2 q3 q4) (iS f) .none .none doc pm an (.ref cda) ct cc) (binds := [("self", .ref x), (f, v)]) hroom (X _ _ ho) rfl hlim (codeRec_of X hcd) rfl
    (BindsTo.of_eq (T.bnd doc pm an ct kk p1 p2 a1 a2 a3 a4 a5 a6 q1 q2 q3 q4 (.ref x) v)) (fun y hy => ?_) (fun y hy => ?_) (fun h₁ hn k => ?_) rfl rfl rfl
  · rcases List.mem_cons.mp hy with rfl | hy
    · exact fun z => by cases z
    rcases List.mem_cons.mp hy with rfl | hy
    · exact fun z => by cases z
    rcases List.mem_cons.mp hy with rfl | hy
    · exact fun z => by cases z
    rcases List.mem_cons.mp hy with rfl | hy
    · exact fun z => by cases z
    cases hy
  · rcases List.mem_cons.mp hy with rfl | hy
    · exact s1
    rcases List.mem_cons.mp hy with rfl | hy
    · exact s2
    cases hy
  have X₁ : K.In h₁ := X.keeps k
  have hx₁ := k _ _ hx
  have hD1 : h₁.get? C = _ := X₁ _ _ hC
  generalize henv : (callEnv (ksFn "__init__" qual (iA f p1 p2) (iB f msg kk a1 a2 a3 a4 a5 a6 q1 q2 q3 q4) (iS f) .none .none doc pm an (.ref cda) ct cc) s.heap.objs.size fI) = env
  have hk : env.scope.kind = .function := by rw [← henv]; rfl
  have e1 : env.kindOf "self" = some .local := by rw [← henv]; exact s1
  have e2 : env.kindOf f = some .local := by rw [← henv]; exact s2
  have e3 : env.kindOf "__class__" = some .free := by rw [← henv]; exact s3
  have e4 : env.kindOf "super" = some .globalImplicit := by rw [← henv]; exact s4
  have hL : env.locals = s.heap.objs.size := by rw [← henv]; rfl
  have hn1 : h₁.Ns env.locals (fun y => List.lookup y [(f, v), (("self" : Str), Value.ref x)]) := by rw [hL]; exact hn
  have hgl : env.globals = mainGlobals := by rw [← henv]; rfl
  have hbt : env.builtins = builtinsNs := by rw [← henv]; rfl
  have hcl2 : env.cells.lookup ("__class__" : Str) = some cc := by rw [← henv]; rfl
  have hfu : env.func = some fI := by rw [← henv]; rfl
  have hco : env.code = .ref cda := by rw [← henv]; rfl
  have hLx : env.locals ≠ x := by rw [hL]; exact Nat.ne_of_gt (Heap.lt_size hx)
  have hswap : swapsWith (.Call (.Attribute (.Call (.Name "super" a1) [] [] a2) "__init__" a3) [.Constant (.str msg) kk a4] [] a5) none a6.line env = pure false := rfl
  have hint : interactive env = false := by rw [← henv]; rfl
  obtain ⟨hp, g, dr, tk, os⟩ := s
  refine ks_wpAt_execs_cons (ks_wpAt_Expr_any (ks_wpAt_MethodCall (ks_wpAt_super_base (ar := { arg := "self", annotation := none, pos := p1 }) e4 e3 (by decide) hfu (X₁ _ _ ho) rfl rfl hco (X₁ _ _ hcode) rfl hvs hfile T.htop ?_) (own_mcall hline rfl)) hint hswap)
  refine ks_loadName_global hk e4 (loadGlobal_builtin (by rw [hgl]; exact G.keeps k) T.sup (by rw [hbt]; exact hB.keeps k) hbs ⟨rfl, ?_⟩)
  refine wpAny_loadName_free hk e3 hcl2 ⟨_, X₁ _ _ hcell, rfl⟩ ?_
  refine wpAny_loadName_local hk e1 hn1 l2 ?_
  refine ks_wpAny_isType_cls hD1 rfl ⟨rfl, ?_⟩
  refine ks_wpAny_call_super hD1 rfl hx₁ rfl (fun c e => by cases e) (looks_mroIn X₁ T.sub) (fun h' e k' => ?_)
  have X' : K.In h' := X₁.keeps k'
  have I' : InstAt h' x (excO C t0) C none := ⟨k' _ _ hx₁, rfl, rfl, trivial⟩
  refine kxs_getMethod kxs_ValueError e (looks_opaque X' T.opq) (l₀ := .ref C :: bm) ?_ rfl X' hm (I'.type.andThen (looks_subIn X' T.subV)) hxC rfl ?_
  · exact fun A Q E s k q => wpAny_bind ((looks_clsIn X' hcl) A _ E s k (wpAny_pure q))
  refine kxs_callWith (i := "ValueError.__init__") (x := x) rfl ?_
  show wpAny _ _ (evalArgs (.ref h'.objs.size) true ((false, eval (.Constant (.str msg) kk a4) env) :: []) []) _ _ _
  refine evalArgs_plain (spliced_cons (Constant_str (spliced_nil ⟨Heap.get?_push_at rfl rfl, ?_⟩)))
  have up : ∀ b o, h₁.get? b = some o → (h'.push (kxs_mw "ValueError.__init__" x)).get? b = some o := fun b o z => Heap.get?_push_of_some _ (k' b o z)
  refine call_mw (up _ _ hD1) (up _ _ hx₁) (Heap.get?_push_at rfl rfl) (one_size _) (fun h2 t1 k2 e2' => ?_)
  have kk2 : ∀ b o, b ≠ x → hp.get? b = some o → h2.get? b = some o := fun b o hb z => k2 b o hb (up b o (k b o z))
  have X2 : K.In h2 := fun a o z => kk2 a o (fun y => by rw [y, hnx] at z; cases z) (X a o z)
  have hn2 : h2.Ns env.locals (fun y => List.lookup y [(f, v), (("self" : Str), Value.ref x)]) := by
    obtain ⟨oL, es, ep, hL', r⟩ := hn1
    exact ⟨oL, es, ep, k2 _ _ hLx (up _ _ hL'), r⟩
  show wpAt _ _ _ (execs [_] env) _ _ _
  refine wpAt_of_wpAny (wpAny_execs_cons (plainObj_wpAny_Assign_Attribute ?_))
  refine wpAny_Name (wpAny_loadName_local hk e2 hn2 l1 ?_) T.f3
  refine wpAny_Name (wpAny_loadName_local hk e1 hn2 l2 ?_) (by decide)
  refine set_plain X2 (ox := excO C t1) (od := none) ⟨e2', rfl, rfl, trivial⟩ T.sa ?_
  refine exc_osa X2 e2' hcl (show refsVE (.ref C :: bm) = true from hbm) rfl T.noN (fun h₃ tk₃ dx k₃ dn dne hx₃ hn₃ => ?_)
  show wpAny _ _ (execs [] _) _ _ _
  refine wpAny_execs_nil (hq h₃ tk₃ dx ⟨fun b o hb z => k₃ b o hb (kk2 b o hb z), ⟨t1, hx₃⟩, ?_, dne, hn₃⟩)
  have z : hp.objs.size < h2.objs.size := by
    have := hn2.lt
    rw [hL] at this
    exact this
  exact Nat.le_of_lt (Nat.lt_of_lt_of_le z dn)
theorem own_made (T : Txt K prog mg cn qual f msg C fI cc cda) {v : Value} (X : K.In s.heap) (hlim : s.heap.NoLimit) (G : s.heap.Ns mainGlobals mg) (Bt : ∃ mb, s.heap.Ns builtinsNs mb ∧ mb "super" = some (.type "super")) (hroom : A.depth + 1 < recursionLimit)
    (hq : ∀ h' tk e d, OwnMade s.heap h' e C d f v → R (.ok (.ret (.ref e))) { s with heap := h', toks := tk }) :
    codeAny (model prog w) A (.call (.ref C) ⟨[v], []⟩) R s := by
  obtain ⟨nm, q, N, bs, bm, sn, sub, ab, col, dd, k0, k1, k2, k3, k5, hC, hbm⟩ := T.cls
  obtain ⟨hp, g, dr, tk, os⟩ := s
  have k : ∀ b o, hp.get? b = some o → ((hp.push (kdv_tup [v])).push (excO C hp.objs.size)).get? b = some o := fun b o e => Heap.get?_push_of_some _ (Heap.get?_push_of_some _ e)
  have hget : ((hp.push (kdv_tup [v])).push (excO C hp.objs.size)).get? (hp.objs.size + 1) = some (excO C hp.objs.size) := by heap_get
  have hnx : K.lookup (hp.objs.size + 1) = none := by
    cases e : K.lookup (hp.objs.size + 1) with
    | none => rfl
    | some o =>
      have z : hp.get? (hp.objs.size + 1) = some o := X _ _ e
      exact absurd (Nat.lt_of_succ_lt (Heap.lt_size z)) (Nat.lt_irrefl _)
  obtain ⟨mb, B1, B2⟩ := Bt
  refine call_own F.excBase_ValueError (fun X => refsVE_contains X bm hbm) (X _ _ hC) (looks_findIn X T.iC) (fun self => bind_fn X self T.tC) (one_size v) ?_
  refine own_init (s := ⟨(hp.push (kdv_tup [v])).push (excO C hp.objs.size), g, dr, tk, os⟩) T (X.keeps k) (hlim.keeps k) (G.keeps k) ⟨mb, B1.keeps k, B2⟩ hget hnx ?_ fun h' tk' dx ⟨k', ⟨t1, hx⟩, dn, dne, hns⟩ => ?_
  · show A.depth + 1 < recursionLimit
    exact hroom
  · have old : ∀ b o, hp.get? b = some o → h'.get? b = some o := fun b o e => k' b o (Nat.ne_of_lt (Nat.lt_succ_of_lt (Heap.lt_size e))) (k b o e)
    have z : hp.objs.size + 1 + 1 ≤ dx := by
      first
        | (simpa only [Heap.size_push] using dn)
        | exact dn
        | (have q := dn; rw [Heap.size_push, Heap.size_push] at q; exact q)
    exact ⟨rfl, hq h' tk' (hp.objs.size + 1) dx ⟨old, Nat.le_succ _, ⟨_, _, hx, rfl, rfl, rfl, rfl⟩, Nat.le_trans (Nat.le_trans (Nat.le_succ _) (Nat.le_succ _)) z, dne, hns⟩⟩
end
end OwnX
end PySem

namespace L2
open PySem PySem.Spec PyProof.Rows
theorem relO_own {v : V} {v' : Value} {w : Str} (r : RelV v v') (f : Str) : RelO (List.lookup f [(w, v)]) (if f = w then some v' else none) := by
  by_cases hw : f = w
  · subst hw
    rw [if_pos rfl, List.lookup_cons_self]
    exact r
  · rw [if_neg hw]
    have qw : (f == w) = false := by simpa using hw
    have q2 : List.lookup f [(w, v)] = none := by simp [List.lookup, qw]
    rw [q2]
    trivial
section
variable {X : Cx} {cn qual f msg : Str} {C fI cc cda : Addr}
/-- cn(e) -/
def tMkOwn (C : Addr) (f : Str) (ta : TA) : St → Hp → XK → Prop := fun σ H Q => ta σ H fun vs H1 => ∃ v, vs = [v] ∧ ∀ d, H1 d = none → Q (.ref C) (some d) (upd H1 d (.xd [(f, v)]))
theorem pmk_own1 {a : Expr} {ta : TA} {p pos : Pos} {k : Nat} (T : PySem.OwnX.Txt X.K X.prog X.mg cn qual f msg C fI cc cda) (hr : Room k X.A) (ha : PA X [a] ta) (hg : Gl X cn) (hdb : (cn == ("__debug__" : Str)) = false)
    (he : starEach (a :: []) X.env = (false, eval a X.env) :: starEach [] X.env) (hpl : (backTo pos (starEach [] X.env)).any (·.1) = false := by rfl) :
    PMk X (.Call (.Name cn p) [a] [] pos) (tMkOwn C f ta) := by
  intro pins s σ H Q I h
  refine wpAny_Call_Name_kw (ld_glob I hg T.gC ?_ hdb)
  refine PySem.W.callWith_K (h₀ := X.base) I.ok.mod.kin T.kC (thn (ha.run pos pins s σ H _ I h) fun us s1 hh => ?_) he hpl
  obtain ⟨vs, H1, I1, r1, v, ev, q1⟩ := hh
  subst ev
  refine ⟨I1.kIn, ?_⟩
  cases r1 with
  | cons rv rn =>
    rename_i v' us'
    cases rn
    show wpAny _ _ (call (.ref C) [v']) _ _ _
    have hlim := I1.nolimit
    have G := I1.mod.glob.keeps I1.bk
    obtain ⟨mb, b1, b2⟩ := I1.mod.blt
    have Bt : ∃ mb, s1.heap.Ns builtinsNs mb ∧ mb "super" = some (.type "super") := ⟨mb, b1.keeps I1.bk, (b2 _ (by decide)).trans (by first | rfl | boot_by_name | kernel_rfl)⟩
    obtain ⟨hp, g, dr, tk, os⟩ := s1
    refine wpAny_call (PySem.OwnX.own_made T I1.kIn hlim G Bt (by have := hr.dp; omega) fun h' tk' e d M => ?_)
    show MkP X pins σ Q (.ref e) ⟨h', g, dr, tk', os⟩
    obtain ⟨oe, fv, hoe, hc, hd, hdat, h1⟩ := M.obj
    have hns := M.ns
    obtain ⟨G', g1, g2⟩ := restrict h' fun b => decide (b ≠ e)
    have gk : ∀ b, b ≠ e → G'.get? b = h'.get? b := fun b hb => g1 b (decide_eq_true hb)
    have ge : G'.get? e = none := g2 e (by simp)
    have old : ∀ b o, hp.get? b = some o → G'.get? b = some o := fun b o q => (gk b (Nat.ne_of_lt (Nat.lt_of_lt_of_le (Heap.lt_size q) M.new))).trans (M.keep b o q)
    have ob : ObjOk X.prog X.w (upd H1 d (.xd [(f, v)])) G' d (.xd [(f, v)]) :=
      ⟨_, hns.at (fun o q => (gk d M.dne).trans q), fun f => relO_own rv f⟩
    have J : Inv X pins σ (upd H1 d (.xd [(f, v)])) ⟨G', g, dr, tk', os⟩ := I1.laid (t' := tk') old M.dbig ob
    refine ⟨e, oe, fv, ⟨G', g, dr, tk', os⟩, _, .ref C, some d, rfl, J, fun b o q => ?_, ge, hoe, ⟨hc, hd⟩, hdat, h1, ?_, rfl, I1.bare, raises_own T.exC T.tyC, q1 d (I1.hok.fresh M.dbig)⟩
    · by_cases hb : b = e
      · have q' : G'.get? b = some o := q
        rw [hb, ge] at q'; cases q'
      · exact (gk b hb).symm.trans q
    · rw [upd_ne (Ne.symm M.dne)]
      exact I1.hok.fresh M.new
end
end L2
namespace Pv
open PySem L2
/-- the own error class c stands -/
def XOk (Γ : Gm) (c : Nat) (cn : Str) : Prop := ∃ qual f msg fI cc cda, PySem.OwnX.Txt Γ.K Γ.P Γ.mg cn qual f msg (Γ.xi.xc c) fI cc cda ∧ Γ.xi.xf c = f
def raiseS (c : Nat) (a : Rho → R) : Rho → RS := fun ρ => match a ρ with
  | .ok (.v t) ρ' _ => if t.imm = true then .ex c t ρ' else .stuck
  | .ok _ _ _ => .stuck
  | .ex c t ρ' => .ex c t ρ'
  | .stuck => .stuck
/-- raise C(e) -/
def sRaise (c : Nat) (cn : Str) (a : Ex) : Sx where
  sem := raiseS c a.sem
  asg := []
  m := fun N sc cm s => match s with
    | .Raise (some (.Call (.Name x _) [e] [] _)) none _ => cm && (decide (x = cn) && (glB sc x && (notStar e && a.m N sc cm e)))
    | _ => false
  pre := fun Γ k => XOk Γ c cn ∧ a.pre Γ k
  snd := fun {X xi N sc lvl cm W x} g p h => by
    split at h
    · simp only [Bool.and_eq_true, decide_eq_true_eq] at h
      obtain ⟨hc, rfl, h1, h2, h3⟩ := h
      obtain ⟨⟨qual, f, msg, fI, cc, cda, T, hf⟩, pa⟩ := p
      have G := gl_of g.hsc h1
      refine PS.to (ps_raise (g.hcm hc) g.tk (pmk_own1 T (g.room hc) (pa_cons (a.snd g.toGd pa h3) pa_nil (starEach_of h2)) G.gl G.db (starEach_of h2))) fun D σ H hq => ?_
      obtain ⟨ρ, fp, e, hq⟩ := hq
      refine ⟨ρ, fp, e, ?_⟩
      simp only [raiseS] at hq
      cases hs : a.sem ρ with
      | stuck => rw [hs] at hq; exact hq.elim
      | ex c t ρ' => rw [hs] at hq; exact fun d H' fp' e' s' x => hq d σ H' fp' e' s' Agree.refl x
      | ok o ρ' τ =>
        rw [hs] at hq
        cases o with
        | p i q => exact hq.elim
        | v t =>
          simp only at hq
          by_cases c : t.imm = true
          case neg => rw [if_neg c] at hq; exact hq.elim
          rw [if_pos c] at hq
          intro v H' fp' fo e' s' q' r'
          have r' : Rep X.K H' t v fo := r'
          have z := r'.imm_nil c
          subst z
          refine ⟨v, rfl, fun d hd => ?_⟩
          have k : ∀ a o, H' a = some o → upd H' d (.xd [(f, v)]) a = some o := fun a o z => by rw [upd_ne (ne_of_none z hd)]; exact z
          refine hq d σ _ fp' (e'.ext k) (s'.trans0 (Step.ext k)) Agree.refl ⟨_, v, upd_same, ?_, r'.ext k, c⟩
          subst hf
          exact List.lookup_cons_self
    · cases h
end Pv
set_option Elab.async false
set_option linter.all false
set_option maxRecDepth 100000
set_option maxHeartbeats 2000000
/-! Pv part N: try .. except C as e: return e.f op b. -/
namespace Pv
open PySem L2

theorem Env.unset {K : PySem.W.Frag} {ρ : Rho} {fp : Fp} {σ : L2.St} {H : Hp} (e : Env K ρ fp σ H) (i : Nat) (x : Option V) : Env K (ρ.set i none) (fun j => if j = i then [] else fp j) (σ.set i x) H := by
  have z := e.empty i
  refine ⟨by simp [e.len], fun j t h => ?_, z.emp, z.nd, z.dj⟩
  obtain ⟨v, hv, r⟩ := z.rep j t h
  refine ⟨v, ?_, r⟩
  by_cases c : j = i
  · subst c
    by_cases hl : j < ρ.length
    · rw [List.getElem?_set_self hl] at h; cases h
    · rw [List.getElem?_eq_none (by simpa using hl)] at h; cases h
  · rw [List.getElem?_set_ne (Ne.symm c)]; exact hv
theorem Step.pure {K : PySem.W.Frag} {ρ2 : Rho} {σ : L2.St} {fp fp2 : Fp} {H H2 H3 : Hp} {fo2 fo3 : List Addr} (s : Step fp H fp2 fo2 H2) (e2 : Env K ρ2 fp2 σ H2) (k : ∀ a o, H2 a = some o → H3 a = some o) (sub : ∀ a ∈ fo3, a ∈ fo2 ∨ H2 a = none) (nd : fo3.Nodup) :
    Step fp H fp2 fo3 H3 := by
  refine ⟨fun a o z n => k a o (s.keep a o z n), fun a z => ?_, nd, fun a z w => ?_⟩
  · rcases z with z | z
    · exact s.sub a (.inl z)
    · rcases sub a z with z | z
      · exact s.sub a (.inr z)
      · exact s.back z
  · rcases sub a z with z | z
    · exact s.dj a z w
    · obtain ⟨xs, e⟩ := e2.own a w
      rw [e] at z; cases z
/-- try: body / except C as e: return e.f op b -/
def tryRetS (c i : Nat) (op : CmpOp) (body : Rho → RS) (b : Rho → R) : Rho → RS := fun ρ => match body ρ with
  | .ex c' t ρ' => if c' = c ∧ i < ρ'.length then (match b (ρ'.set i none) with
      | .ok o ρ2 τ => match f2 (cmpV op) ρ2 [.v t, o] with
        | some r => .ret r ρ2
        | none => .stuck
      | _ => .stuck) else .stuck
  | r => r
def sTryRet (c : Nat) (cn : Str) (i : Nat) (f : Str) (op : CmpOp) (body : Bl) (b : Ex) : Sx where
  sem := tryRetS c i op body.sem b.sem
  asg := i :: body.asg
  m := fun N sc cm s => match s with
    | .Try bd [.ExceptHandler (some (.Name x _)) (some n) [.Return (some (.Compare (.Attribute (.Name n2 p1) fld p2) [o] [y] p3)) p4] _] [] [] _ =>
      cm && (decide (x = cn) && (glB sc x && (decide (N[i]? = some n) && (decide (sc.names.lookup n = some .local) && (nmB N sc i n2 && (decide (fld = f) && (decide (o = op) && (notSet y && (body.m N sc true bd && b.m N sc false y)))))))))
    | _ => false
  pre := fun Γ k => XOk Γ c cn ∧ Γ.xi.xf c = f ∧ body.pre Γ k ∧ b.pre Γ k
  snd := fun {X xi N sc lvl cm W x} g p h => by
    split at h
    · rename_i bd x _ n n2 p1 fld p2 o y p3 p4 _ _
      simp only [Bool.and_eq_true, decide_eq_true_eq] at h
      obtain ⟨hc, rfl, h1, h2, h3, h4, rfl, rfl, h5, h6, h7⟩ := h
      obtain ⟨⟨qual, f', msg, fI, cc, cda, T, hf'⟩, hf, pb, pe⟩ := p
      have : f' = fld := hf'.symm.trans hf
      subst this
      have G := gl_of g.hsc h1
      have hcalm := g.hcm hc
      have hr : Room lvl X.A := g.room hc
      let rq := fun (a : Addr) (pn : List (Addr × Obj)) => op_cmp (X := X.suite a pn) g.un o
      let ts : Addr → Value → Option Addr → TS := fun a cls d D σ H => ∀ pn, tRet (tOp (rq a pn).choose (tXf a cls d (xi.xc c) f' (tVar i)) (tE X.K xi W0 b.sem)) D σ H
      have XT : XfC X.K (xi.xc c) := ⟨T.ga, T.gg, T.exC, T.hdC⟩
      refine PS.to (ps_try_as (c := .ref (xi.xc c)) (i := i) (Wout := W) (tb := fun W' => tS X.K xi W' body.asg body.sem) (ts := ts) g.hst g.hfr (by rw [g.hN]; exact g.nd) (by rw [g.hN]; exact h2) (by show X.env.scope.names.lookup n = _; rw [g.hsc]; exact h3)
        ⟨G.gl, G.db, .inl T.gC⟩ g.tk (fun W' pn xe tk po => ?_) (fun a oe cls d pn hz hfl => ?_)) fun D σ H hq => ?_
      · exact body.snd (X := X.tr pn xe) (sc := sc) (cm := true) (W := W') ⟨⟨g.hN, g.nd, g.hsc, fun _ => hcalm, fun _ => hr, g.un, tk⟩, g.fnok, po, g.hst, g.hfr⟩ pb h6
      · have gd : Gd (X.suite a ((a, oe) :: pn)) xi N sc lvl false W0 := ⟨g.hN, g.nd, g.hsc, fun z => (by cases z), fun z => (by cases z), g.un, takes0⟩
        refine pss_one (PS.to (ps_ret (pe_cmpR (rq a ((a, oe) :: pn)).choose_spec.1 (pe_xf XT T.noN hz hfl (nm_of (X := X.suite a ((a, oe) :: pn)) g.hN g.hsc h4)) (b.snd gd pe h7) (bim_of h5))) fun D σ H q => q _)
      · obtain ⟨ρ, fp, e, hq⟩ := hq
        refine ⟨ρ, fp, e, ?_⟩
        simp only [tryRetS] at hq
        cases hs : body.sem ρ with
        | stuck => rw [hs] at hq; exact hq.elim
        | nx ρ1 => rw [hs] at hq; exact postS.less (asg' := i :: body.asg) (fun j z => List.mem_cons_of_mem _ z) hq
        | ret t ρ1 => rw [hs] at hq; exact postS.less (asg' := i :: body.asg) (fun j z => List.mem_cons_of_mem _ z) hq
        | bk ρ1 => rw [hs] at hq; exact postS.less (asg' := i :: body.asg) (fun j z => List.mem_cons_of_mem _ z) hq
        | ct ρ1 => rw [hs] at hq; exact postS.less (asg' := i :: body.asg) (fun j z => List.mem_cons_of_mem _ z) hq
        | ex c' t ρ' =>
          rw [hs] at hq
          simp only at hq
          by_cases cq : c' = c ∧ i < ρ'.length
          case neg => rw [if_neg cq] at hq; exact hq.elim
          rw [if_pos cq] at hq
          obtain ⟨rfl, hi0⟩ := cq
          intro d σ1 H1 fp1 e1 s1 ag1 xr
          refine ⟨true, T.te, fun _ a ha pn => ?_, fun z => by cases z⟩
          obtain ⟨fs, w, hd, hl, rw', him⟩ := xr
          have hi : i < σ1.length := by rw [e1.len]; exact hi0
          refine ⟨.ref a, List.getElem?_set_self hi, rfl, rfl, d, fs, w, rfl, hd, by rw [← hf]; exact hl, ?_⟩
          refine ⟨ρ'.set i none, _, e1.unset i _, ?_⟩
          cases hb : b.sem (ρ'.set i none) with
          | stuck => rw [hb] at hq; exact hq.elim
          | ex c2 t2 ρ2 => rw [hb] at hq; exact hq.elim
          | ok o2 ρ2 τ2 =>
            rw [hb] at hq
            simp only at hq
            cases hv : f2 (cmpV o) ρ2 [.v t, o2] with
            | none => rw [hv] at hq; exact hq.elim
            | some r =>
              rw [hv] at hq
              intro v2 H2 fp2 fo2 e2 s2 q2 r2
              have rw2 : Rep X.K H2 t w [] := Rep.keep s2.keep (e1.unset i none).own (fun _ z => by cases z) rw'
              refine (rq a pn).choose_spec.2 ρ2 fp2 _ H2 [.v t, o2] [w, v2] fo2 r e2 ⟨w, [v2], [], fo2, rfl, by simp, rw2, v2, [], fo2, [], rfl, by simp, r2, rfl, rfl⟩ s2.nd hv _ fun v3 H3 fo3 k3 r3 sub3 nd3 => ?_
              have su : Step fp1 H1 (fun j => if j = i then [] else fp1 j) [] H1 := ⟨fun a o z _ => z, fun a z => .inl (z.elim (fun z => by obtain ⟨j, _, q⟩ := in_empty z; exact ⟨j, q⟩) fun z => by cases z), .nil, fun _ z => by cases z⟩
              refine hq v3 _ H3 fp2 fo3 (e2.ext k3) (((s1.trans0 su).trans0 s2).pure e2 k3 sub3 nd3) (fun j hj => ?_) r3
              have hj' : j ≠ i ∧ j ∉ body.asg := by simpa using hj
              rw [List.getElem?_set_ne (Ne.symm hj'.1)]
              exact ag1 j hj'.2
    · cases h
end Pv
set_option Elab.async false
set_option linter.all false
set_option maxRecDepth 100000
set_option maxHeartbeats 4000000
/-! Pv part O: str(int) and int(text) up to 4300 digits, isinstance. -/
namespace PySem.W
open PySem PySem.Calls PySem.NumText PyProof.Rows
namespace KIN
theorem wp_most {M : Model} {A : Around} {E : Value → Shared → Prop} {s : Shared} {Q : Nat → Shared → Prop} (hd : s.heap.NoDigits) (h : Q 4300 s) : wpAny M A Builtin.intMaxStrDigits Q E s := by
  obtain ⟨mc, hns, hnone⟩ := hd
  unfold Builtin.intMaxStrDigits
  refine wpAny_bind (wpAny_nsGet hns ?_)
  rw [hnone]
  exact wpAny_pure h
theorem wp_textN {M : Model} {A : Around} {E : Value → Shared → Prop} {s : Shared} {Q : Value → Shared → Prop} {v : Value} {text : List Nat} {n : Int} (hd : s.heap.NoDigits)
    (hs : ¬ (text.takeWhile (· != 0)).length ≤ 640) (hr : (int_private% "readNumeral") 4300 10 (text.takeWhile (· != 0)) = (int_private% "Numeral.value") n)
    (ha : ((text.takeWhile (· != 0)).length == text.length) = true) (h : Q (.int n s.toks) { s with toks := s.toks + 1 }) :
    wpAny M A ((int_private% "intFromText") v text 10) Q E s := by
  obtain ⟨hp, g, d, tk, os⟩ := s
  repeat (any_goals (first
    | assumption
    | (with_reducible refine wp_most hd ?_)
    | (with_reducible refine wpAny_ite_false (decide_eq_false hs) ?_)
    | (with_reducible refine wpAny_ite_true (decide_eq_true ha) ?_)
    | wp_step))
  all_goals (try rw [hr])
  all_goals (try dsimp only)
  repeat (any_goals (first
    | assumption
    | (with_reducible refine wpAny_ite_true (decide_eq_true ha) ?_)
    | wp_step))
set_option maxHeartbeats 8000000 in
theorem meets_textN {x : PySem.Str} {u : Tok} {n : Int} (hz : x.length ≤ sizeLine) (hl : ¬ (numSeenOf x).length ≤ 640) (hn : PySem.intText? x = some n) :
    Meets (Builtin.«int.__new__» ⟨[.type "int", .str x u], []⟩) (fun _ R s => s.heap.NoDigits ∧ R (.ok (.ret (.int n s.toks))) { s with toks := s.toks + 1 }) :=
  Meets.of_wp fun prog w A R s h => by
    obtain ⟨hp, g, d, tk, os⟩ := s
    obtain ⟨hd, h⟩ := h
    have f1 := F.conv_sub_int
    have f2 := F.madeHere_int
    have f3 := str_int
    have f4 := str_idx
    have f5 := str_trunc
    have f6 : typeOf (.str x u) = pure (.type "str") := rfl
    have hr : (int_private% "readNumeral") 4300 10 (numSeenOf x) = (int_private% "Numeral.value") n ∧ ((numSeenOf x).length == (numTextOf x).length) = true := by
      rcases read4300 x hz with ⟨m, h1, h2, h3⟩ | ⟨h1, _⟩
      · rw [hn] at h1
        injection h1 with h1
        subst h1
        exact ⟨h3, h2⟩
      · rw [hn] at h1
        cases h1
    have hk := Hid.mk (And.intro hl (And.intro hr hd))
    clear hl hr hn hz hd
    repeat (any_goals (first
      | assumption
      | ((with_reducible show wpAny _ _ ((int_private% "intFromText") _ _ _) _ _ _); refine wp_textN hk.out.2.2 hk.out.1 hk.out.2.1.1 hk.out.2.1.2 ?_)
      | wp_step))
    all_goals first | exact ⟨_, rfl, h⟩ | skip
end KIN
end PySem.W
namespace Pv
open PySem L2 PyProof.Rows

/-- the digit limit stands as built in -/
def NoDig (K : PySem.W.Frag) : Prop := PySem.W.nsIn K cStatics "sys.int_max_str_digits" = some none
theorem ns_none_of {K : PySem.W.Frag} {h : Heap} {m : Str → Option Value} {n : Str} {a : Addr} (X : K.In h) (G : h.Ns a m) (e : PySem.W.nsIn K a n = some none) : m n = none := by
  obtain ⟨o, es, ep, ho, hd, _, hf⟩ := G
  unfold PySem.W.nsIn at e
  split at e
  · rename_i c d es' n' sl q
    have := X _ _ q
    rw [ho] at this
    cases this
    cases hd
    split at e
    · cases e
    · rename_i he
      rw [← hf]
      unfold nsFind findBy
      rw [← Array.find?_toList, he]
      rfl
  · cases e
theorem noDigits_of {X : Cx} {pins : List (Addr × Obj)} {σ : L2.St} {H : Hp} {s : Shared} (I : Inv X pins σ H s) (n : NoDig X.K) : s.heap.NoDigits := by
  obtain ⟨mc, h1, _⟩ := I.nolimit
  exact ⟨mc, h1, ns_none_of I.kIn h1 n⟩
def strOfT : T → Option T
  | .int i => if i.natAbs < 10 ^ 4300 then some (.str (toString i)) else none
  | _ => none
def rStrN : List V → Hp → VK → Prop := fun xs H Q => ∃ i : Int, xs = [.int i] ∧ i.natAbs < 10 ^ 4300 ∧ Q (.str (toString i)) H
theorem call_strN {X : Cx} (hc : X.calm = true) (n : NoDig X.K) : CallR X (.type "str") rStrN := by
  intro pins s σ H xs us Q I r h
  obtain ⟨i, rfl, hz, q⟩ := h
  obtain ⟨u, rfl, t, rfl⟩ := vals1 r
  exact str_of_int_or (I.ok.hd hc) (noDigits_of I n) (fun _ => ⟨.str _, H, I.tok _, ⟨_, rfl⟩, q⟩) (fun z => absurd hz (Nat.not_lt.mpr z))
def intOfT : T → Option T
  | .int i => some (.int i)
  | .str x => if x.length ≤ 4300 ∧ (x.length ≤ 640 ∨ ¬ (numSeenOf x).length ≤ 640) then (match PySem.intText? x with
    | some n => some (.int n)
    | none => none) else none
  | _ => none
def rIntN : List V → Hp → VK → Prop := fun xs H Q => (∃ i, xs = [.int i] ∧ Q (.int i) H) ∨ ∃ a m, xs = [.str a] ∧ a.length ≤ 4300 ∧ (a.length ≤ 640 ∨ ¬ (numSeenOf a).length ≤ 640) ∧ PySem.intText? a = some m ∧ Q (.int m) H
theorem call_intN {X : Cx} (n : NoDig X.K) : CallR X (.type "int") rIntN := by
  intro pins s σ H xs us Q I r h
  rcases h with ⟨i, rfl, q⟩ | ⟨a, m, rfl, hl, c, hm, q⟩
  · exact call_int1 pins s σ H _ us Q I r (.inl ⟨i, rfl, q⟩)
  · obtain ⟨u, rfl, t, rfl⟩ := vals1 r
    rcases c with c | c
    · exact PySem.W.KIN.call_text hm c ⟨.int m, H, I.tok _, ⟨_, rfl⟩, q⟩
    · refine call_int_1 (PySem.W.KIN.meets_textN (u := t) (Nat.le_trans hl (by rw [sizeLine_eq]; omega)) c hm) ⟨noDigits_of I n, ?_⟩
      exact ⟨typeIs_int _ _ _, .int m, H, I.tok _, ⟨_, rfl⟩, q⟩
/-- str(n) -/
def eStrOf (a : Ex) : Ex where
  sem := opSem [a.sem] (f1 strOfT)
  m := fun N sc cm e => cm && callM "str" (xs [a]) N sc cm e
  pre := fun Γ k => (Γ.mg "str" = none ∧ NoDig Γ.K) ∧ (xs [a]).pre Γ k
  snd := fun {X xi N sc lvl cm W e} g p h => by
    simp only [Bool.and_eq_true] at h
    obtain ⟨hc, h⟩ := h
    unfold callM at h
    split at h
    · simp only [Bool.and_eq_true, decide_eq_true_eq] at h
      obtain ⟨rfl, h1, h2, h3, h4⟩ := h
      have G := gl_of g.hsc h1
      refine PE.to (pe_callTy (call_strN (g.hcm hc) p.1.2) G.gl p.1.1 (by decide +kernel) ((xs [a]).snd g p.2 h4) G.nn G.db (starEach_of h2) (anyStar_of h3)) fun σ H Q hq => op_to (r := rStrN) (ok1 fun H s u x fx hg rx Q p => ?_) hq
      unfold strOfT at hg
      split at hg
      · split at hg
        · rename_i c
          cases hg
          obtain ⟨rfl, _⟩ := rx
          exact ⟨_, rfl, c, p.v ⟨rfl, rfl⟩⟩
        · cases hg
      · cases hg
    · cases h
/-- int(n), int(text) -/
def eIntT (a : Ex) : Ex where
  sem := opSem [a.sem] (f1 intOfT)
  m := callM "int" (xs [a])
  pre := fun Γ k => (Γ.mg "int" = none ∧ NoDig Γ.K) ∧ (xs [a]).pre Γ k
  snd := fun {X xi N sc lvl cm W e} g p h => by
    unfold callM at h
    split at h
    · simp only [Bool.and_eq_true, decide_eq_true_eq] at h
      obtain ⟨rfl, h1, h2, h3, h4⟩ := h
      have G := gl_of g.hsc h1
      refine PE.to (pe_callTy (call_intN p.1.2) G.gl p.1.1 (by decide +kernel) ((xs [a]).snd g p.2 h4) G.nn G.db (starEach_of h2) (anyStar_of h3)) fun σ H Q hq => op_to (r := rIntN) (ok1 fun H s u x fx hg rx Q p => ?_) hq
      unfold intOfT at hg
      split at hg
      · cases hg
        obtain ⟨rfl, _⟩ := rx
        exact .inl ⟨_, rfl, p.v ⟨rfl, rfl⟩⟩
      · split at hg
        · rename_i c
          split at hg
          · rename_i n hn
            cases hg
            obtain ⟨rfl, _⟩ := rx
            exact .inr ⟨_, _, rfl, c.1, c.2, hn, p.v ⟨rfl, rfl⟩⟩
          · cases hg
        · cases hg
      · cases hg
    · cases h
/-! ### isinstance -/
def T.tn : Pv.T → Option String
  | .non => some "NoneType"
  | .bl _ => some "bool"
  | .int _ => some "int"
  | .str _ => some "str"
  | .tup _ => some "tuple"
  | .lst _ => some "list"
  | .fro _ => none
/-- the types asked for -/
inductive Ty where
  | int | str | tuple | list | bool
def Ty.nm : Ty → String
  | .int => "int"
  | .str => "str"
  | .tuple => "tuple"
  | .list => "list"
  | .bool => "bool"
def Ty.is : Ty → Pv.T → Bool
  | .int, .int _ => true
  | .int, .bl _ => true
  | .str, .str _ => true
  | .tuple, .tup _ => true
  | .list, .lst _ => true
  | .bool, .bl _ => true
  | _, _ => false
theorem kit_is (ty : Ty) (t : Pv.T) (n : String) (h : t.tn = some n) : kitB n ty.nm = some (ty.is t) := by
  cases t <;> cases h <;> cases ty <;> first | rfl | kernel_rfl
def isT (ty : Ty) : Pv.T → Option Pv.T
  | .fro _ => none
  | t => some (.bl (ty.is t))
theorem ty_x {K : PySem.W.Frag} {H : Hp} {t : Pv.T} {v : V} {f : List Addr} (r : Rep K H t v f) {n : String} (h : t.tn = some n) : TyX K H v (.type n) := by
  cases t with
  | non => cases h; rw [r.1]; exact .base .non
  | bl b => cases h; rw [r.1]; exact .base (.bl b)
  | int b => cases h; rw [r.1]; exact .base (.int b)
  | str b => cases h; rw [r.1]; exact .base (.str b)
  | tup ts =>
    cases h
    obtain ⟨a, vs, rfl, s, _⟩ := r
    rcases s with (s | ⟨o, s⟩) | ⟨o, its, n, e, c, _⟩
    · exact .base (.tup s)
    · exact .fTuple s
    · exact .kTuple e c
  | lst ts =>
    cases h
    obtain ⟨a, vs, g, rfl, _, s, _⟩ := r
    exact .base (.lst s)
  | fro ns => cases h
/-- isinstance(e, ty) -/
def eIs (a : Ex) (ty : Ty) : Ex where
  sem := opSem [a.sem] (f1 (isT ty))
  m := fun N sc cm e => match e with
    | .Call (.Name y _) [e, .Name z _] [] _ => decide (y = "isinstance") && (glB sc y && (decide (z = Str.ofString ty.nm) && (glB sc z && (notStar e && a.m N sc cm e))))
    | _ => false
  pre := fun Γ k => (Γ.mg "isinstance" = none ∧ Γ.mg (Str.ofString ty.nm) = none) ∧ a.pre Γ k
  snd := fun {X xi N sc lvl cm W e} g p h => by
    split at h
    · simp only [Bool.and_eq_true, decide_eq_true_eq] at h
      obtain ⟨rfl, h1, rfl, h2, h3, h4⟩ := h
      have G := gl_of g.hsc h1
      have G2 := gl_of g.hsc h2
      have hv : bootBuiltins (Str.ofString ty.nm) = some (.type ty.nm) := by cases ty <;> decide +kernel
      refine PE.to (pe_callB (call_isi (X := X)) G.gl p.1.1 (by decide +kernel) (pa_cons (a.snd g p.2 h4) (pa_cons (pe_bltn (v := .ty ty.nm) G2.gl p.1.2 hv rfl G2.nn G2.db) pa_nil rfl) (starEach_of h3)) G.nn G.db (starEach_of h3) rfl) fun σ H Q hq => ?_
      have z := op_to (ss := [a.sem]) (f := f1 (isT ty)) (r := fun vs H Q => match vs with | [v] => rIsi X.K [v, .ty ty.nm] H Q | _ => False) (ok1 fun H s u x fx hg rx Q p => ?_) hq
      · exact z
      · show rIsi X.K [x, .ty ty.nm] H Q
        cases hn : s.tn with
        | none => cases s <;> first | (cases hn; done) | (cases hg; done)
        | some n =>
          have hu : u = .bl (ty.is s) := by cases s <;> cases hn <;> cases hg <;> rfl
          subst hu
          exact ⟨x, .ty ty.nm, .type n, .type ty.nm, ty.is s, rfl, .ty _, ty_x rx hn, kit_ty (kit_is ty s n hn), p.v ⟨rfl, rfl⟩⟩
    · cases h
end Pv
namespace Pv
open PySem L2
theorem pe_callS0 {X : Cx} {CX : CXT} {k : Nat} {f : Addr} {fd : FuncData} {ps : List Str} {sp : Sp} {x : Str} {E : L2.St → XK} {p pos : Pos} (F : FnOk X.prog X.w X.K X.mg X.base CX k f fd ps sp) (hr : Room k X.A) (hg : Gl X x) (hm : X.mg x = some (.ref f)) (hk : PySem.W.keepIn X.K (.ref f) = true) (hb : Binds X.K fd ps []) (hx : ∀ σ, PassesAt CX X σ (E σ))
    (hdb : (x == ("__debug__" : Str)) = false) : PE X (.Call (.Name x p) [] [] pos) (tCallS sp E tNil) := by
  refine ⟨fun pins s σ H Q I h => ?_⟩
  refine wpAny_Call_Name_kw (ld_glob I hg hm ?_ hdb)
  exact PySem.W.callWith_K0 I.kIn hk (run_fnS F hr hb (hx σ) I .nil h)
/-- f(), an own def -/
def eCall0 (F : Fn) : Ex where
  sem := effSem F.np [] F.φ
  m := fun N sc cm e => match e with
    | .Call (.Name y _) [] [] _ => cm && (decide (y = F.name) && glB sc y)
    | _ => false
  pre := fun Γ k => Has Γ k F
  snd := fun {X xi N sc lvl cm W e} g p h => by
    split at h
    · simp only [Bool.and_eq_true, decide_eq_true_eq] at h
      obtain ⟨hc, rfl, h1⟩ := h
      have G := gl_of g.hsc h1
      obtain ⟨f, fd, ps, k1, k2, k3, k4⟩ := p
      exact PE.to (pe_callS0 k4 (g.room hc) G.gl k1 k2 k3 (fun σ => passAt g.tk σ) G.db) fun σ H Q hq =>
        eff_to (ss := []) (r := fun σ vs H Q => spF X.K xi F.np F.φ vs H Q (WE W σ)) (fun vs H Q z => z) hq
    · cases h
end Pv
set_option Elab.async false
set_option linter.all false
set_option maxRecDepth 100000
set_option maxHeartbeats 2000000
/-! k83: the defs as terms, and their checks. Printed by gen.py. -/
namespace K83
open PySem L2 Pv
abbrev T := Pv.T
def top (i : Nat) : Stmt := PySem.Challenge.pw_wishweather_k83_values.main.body.getD i (.Pass ⟨0, 0, 0, 0⟩)
def FUEL : Nat := 1000000000
def DEPTH : Nat := 70
/-! ### _law_begin -/
abbrev N_law_begin : List Str := ["script"]
def b_law_begin : Bl := blk [sRet (eLst (xs [(eInt 0), (eInt 0), (eInt 0), (eInt 0), (eList (eSlH (eVar 0) (eInt 63)))]))]
def φ_law_begin : List T → FR := fnSem 1 b_law_begin
def F_law_begin : Fn := ⟨"_law_begin", 1, φ_law_begin⟩
theorem E_law_begin : F_law_begin = ⟨"_law_begin", 1, fnSem 1 b_law_begin⟩ := by unfold F_law_begin φ_law_begin; rfl
theorem D_law_begin : DefOk (top 19) N_law_begin ["script"] b_law_begin := ⟨⟨rfl, rfl, rfl, by decide +kernel, rfl, by decide +kernel, by decide +kernel⟩, by kernel_rfl⟩
/-! ### _law_draw -/
abbrev N_law_draw : List Str := ["d", "many", "cell", "number", "digit", "mixed"]
def b_law_draw : Bl := blk [sIf (bCmp .Lt (eVar 1) (eInt 2)) (blk [sRet (eInt 0)]) (blk []),
  sIf (bAnd [(bCmp .Eq (eIx (eVar 0) (eInt 1)) (eInt 0)), (bCmp .Lt (eIx (eVar 0) (eInt 2)) (eLen (eIx (eVar 0) (eInt 4))))]) (blk [sSet (gN 2) (eIx (eIx (eVar 0) (eInt 4)) (eIx (eVar 0) (eInt 2))),
  sSetIx (eVar 0) (eInt 2) (eBin .Add (eIx (eVar 0) (eInt 2)) (eInt 1)),
  sSet (gN 3) (eIf (bCmp .GtE (eVar 2) (eInt 0)) (eVar 2) (eNeg (eVar 2))),
  sIf (bCmp .GtE (eVar 3) (eBin .Pow (eInt 10) (eInt 18))) (blk [sSetIx (eVar 0) (eInt 1) (eVar 3)]) (blk [sSetIx (eVar 0) (eInt 0) (eBin .Mod (eIntT (eBin .Add (eBin .Add (eBin .Mult (eIx (eVar 0) (eInt 0)) (eInt 69621)) (eBin .Mult (eVar 3) (eInt 48271))) (eInt 12345))) (eInt 2147483647))])]) (blk []),
  sIf (bCmp .Gt (eIx (eVar 0) (eInt 1)) (eInt 0)) (blk [sSet (gN 4) (eBin .Mod (eIntT (eIx (eVar 0) (eInt 1))) (eVar 1)),
  sSetIx (eVar 0) (eInt 1) (eBin .FloorDiv (eIx (eVar 0) (eInt 1)) (eVar 1)),
  sRet (eVar 4)]) (blk []),
  sSetIx (eVar 0) (eInt 3) (eBin .Add (eIx (eVar 0) (eInt 3)) (eInt 1)),
  sSetIx (eVar 0) (eInt 0) (eBin .Mod (eIntT (eBin .Add (eBin .Add (eBin .Mult (eIx (eVar 0) (eInt 0)) (eInt 48271)) (eBin .Mult (eIx (eVar 0) (eInt 3)) (eInt 7919))) (eInt 11))) (eInt 2147483647)),
  sSet (gN 5) (eBin .Mod (eIntT (eBin .Add (eBin .Mult (eIx (eVar 0) (eInt 0)) (eIx (eVar 0) (eInt 0))) (eIx (eVar 0) (eInt 3)))) (eInt 2147483629)),
  sRet (eBin .Mod (eIntT (eBin .FloorDiv (eVar 5) (eInt 7))) (eVar 1))]
def φ_law_draw : List T → FR := fnSem 6 b_law_draw
def F_law_draw : Fn := ⟨"_law_draw", 2, φ_law_draw⟩
theorem E_law_draw : F_law_draw = ⟨"_law_draw", 2, fnSem 6 b_law_draw⟩ := by unfold F_law_draw φ_law_draw; rfl
theorem D_law_draw : DefOk (top 20) N_law_draw ["d", "many"] b_law_draw := ⟨⟨rfl, rfl, rfl, by decide +kernel, rfl, by decide +kernel, by decide +kernel⟩, by kernel_rfl⟩
/-! ### _law_pick -/
abbrev N_law_pick : List Str := ["d", "row"]
def b_law_pick : Bl := blk [sRet (eIx (eVar 1) (eCall F_law_draw (xs [(eVar 0), (eLen (eVar 1))])))]
def φ_law_pick : List T → FR := fnSem 2 b_law_pick
def F_law_pick : Fn := ⟨"_law_pick", 2, φ_law_pick⟩
theorem E_law_pick : F_law_pick = ⟨"_law_pick", 2, fnSem 2 b_law_pick⟩ := by unfold F_law_pick φ_law_pick; rfl
theorem D_law_pick : DefOk (top 21) N_law_pick ["d", "row"] b_law_pick := ⟨⟨rfl, rfl, rfl, by decide +kernel, rfl, by decide +kernel, by decide +kernel⟩, by kernel_rfl⟩
/-! ### _law_pool -/
abbrev N_law_pool : List Str := []
def b_law_pool : Bl := blk [sRet (eLst (xs [(eStr "a"), (eStr "b2"), (eStr "core"), (eStr "edge7"), (eStr "north"), (eStr "s"), (eStr "hall"), (eStr "k9"), (eStr "red"), (eStr "blue"), (eStr "green"), (eStr "u"), (eStr "desk3"), (eStr "gate0"), (eStr "printer"), (eStr "mail"), (eStr "x1"), (eStr "door"), (eStr "east"), (eStr "west4"), (eStr "n"), (eStr "till"), (eStr "shop"), (eStr "scan8"), (eStr "lab"), (eStr "p"), (eStr "office"), (eStr "zz"), (eStr "tower12"), (eStr "yard"), (eStr "m5"), (eStr "cash"), (eStr "log1"), (eStr "books"), (eStr "v"), (eStr "wing"), (eStr "floor2"), (eStr "abcdefgh"), (eStr "q"), (eStr "tray"), (eStr "stock6"), (eStr "h"), (eStr "unit"), (eStr "rack"), (eStr "line4"), (eStr "bell"), (eStr "site"), (eStr "j7"), (eStr "cup"), (eStr "lamp")]))]
def φ_law_pool : List T → FR := fnSem 0 b_law_pool
def F_law_pool : Fn := ⟨"_law_pool", 0, φ_law_pool⟩
theorem E_law_pool : F_law_pool = ⟨"_law_pool", 0, fnSem 0 b_law_pool⟩ := by unfold F_law_pool φ_law_pool; rfl
theorem D_law_pool : DefOk (top 23) N_law_pool [] b_law_pool := ⟨⟨rfl, rfl, rfl, by decide +kernel, rfl, by decide +kernel, by decide +kernel⟩, by kernel_rfl⟩
/-! ### _law_leaf -/
abbrev N_law_leaf : List Str := ["d", "way"]
def b_law_leaf : Bl := blk [sSet (gN 1) (eCall F_law_draw (xs [(eVar 0), (eInt 6)])),
  sIf (bCmp .Eq (eVar 1) (eInt 0)) (blk [sRet eNon]) (blk []),
  sIf (bCmp .Eq (eVar 1) (eInt 1)) (blk [sRet (eCall F_law_pick (xs [(eVar 0), (eBin .Add (eCall0 F_law_pool) (eLst (xs [(eStr ""), (eStr "a b"), (eStr "x;y("), (eStr "-"), (eStr "12"), (eStr ")~!")])))]))]) (blk []),
  sIf (bCmp .Eq (eVar 1) (eInt 2)) (blk [sRet (eBin .Sub (eInt 0) (eCall F_law_draw (xs [(eVar 0), (eInt 1000000)])))]) (blk []),
  sIf (bCmp .Eq (eVar 1) (eInt 3)) (blk [sRet (eBin .Add (eBin .LShift (eInt 1) (eCall F_law_draw (xs [(eVar 0), (eInt 8000)]))) (eCall F_law_draw (xs [(eVar 0), (eInt 1000)])))]) (blk []),
  sRet (eCall F_law_draw (xs [(eVar 0), (eInt 50)]))]
def φ_law_leaf : List T → FR := fnSem 2 b_law_leaf
def F_law_leaf : Fn := ⟨"_law_leaf", 1, φ_law_leaf⟩
theorem E_law_leaf : F_law_leaf = ⟨"_law_leaf", 1, fnSem 2 b_law_leaf⟩ := by unfold F_law_leaf φ_law_leaf; rfl
theorem D_law_leaf : DefOk (top 26) N_law_leaf ["d"] b_law_leaf := ⟨⟨rfl, rfl, rfl, by decide +kernel, rfl, by decide +kernel, by decide +kernel⟩, by kernel_rfl⟩
/-! ### _law_value -/
abbrev N_law_value : List Str := ["d", "many", "depth", "size", "step"]
def b_law_value (F_law_value : Fn) : Bl := blk [sIf (bOr [(bCmp .Eq (eVar 2) (eInt 0)), (bCmp .Lt (eVar 1) (eInt 2)), (bCmp .Eq (eCall F_law_draw (xs [(eVar 0), (eInt 4)])) (eInt 0))]) (blk [sRet (eCall F_law_leaf (xs [(eVar 0)]))]) (blk []),
  sSet (gN 3) (eCall F_law_draw (xs [(eVar 0), (eInt 5)])),
  sRet (eTuple (eLc ⟨[4], (gN 4), (iRange1 (eVar 3)), none, (eCall F_law_value (xs [(eVar 0), (eBin .FloorDiv (eVar 1) (eBin .Add (eVar 3) (eInt 1))), (eBin .Sub (eVar 2) (eInt 1))]))⟩))]
def φ_law_value : Nat → List T → FR
  | 0 => fun _ => .stuck
  | n + 1 => fnSem 5 (b_law_value ⟨"_law_value", 3, φ_law_value n⟩)
def F_law_value_at (n : Nat) : Fn := ⟨"_law_value", 3, φ_law_value n⟩
theorem E0_law_value : F_law_value_at 0 = ⟨"_law_value", 3, fun _ => .stuck⟩ := rfl
theorem E_law_value (n : Nat) : F_law_value_at (n + 1) = ⟨"_law_value", 3, fnSem 5 (b_law_value (F_law_value_at n))⟩ := by unfold F_law_value_at; rw [φ_law_value]
abbrev F_law_value : Fn := F_law_value_at DEPTH
theorem D_law_value (n : Nat) : DefOk (top 27) N_law_value ["d", "many", "depth"] (b_law_value (F_law_value_at n)) := ⟨⟨rfl, rfl, rfl, by decide +kernel, rfl, by decide +kernel, by decide +kernel⟩, by kernel_rfl⟩
/-! ### write_value -/
abbrev N_write_value : List Str := ["value", "parts", "pending", "written", "one", "place"]
def b_write_value : Bl := blk [sSet (gN 1) (eLst (xs [])),
  sSet (gN 2) (eLst (xs [(eTup (xs [(eBl false), (eVar 0)]))])),
  sWhile FUEL (bTruth (eVar 2)) (blk [sSet (gT [3, 4]) (ePop (eVar 2)),
  sIf (bTruth (eVar 3)) (blk [sExpr (eAppend (eVar 1) (eVar 4))]) (blk [sIf (bCmp .Is (eVar 4) eNon) (blk [sExpr (eAppend (eVar 1) (eStr "-"))]) (blk [sIf (bTruth (eIs (eVar 4) .str)) (blk [sExpr (eAppend (eVar 1) (eBin .Add (eBin .Add (eStr "\"") (eVar 4)) (eStr "\"")))]) (blk [sIf (bTruth (eIs (eVar 4) .int)) (blk [sExpr (eAppend (eVar 1) (eStrOf (eVar 4)))]) (blk [sExpr (eAppend (eVar 1) (eStr "(")),
  sExpr (eAppend (eVar 2) (eTup (xs [(eBl true), (eStr ")")]))),
  sFor (gN 5) (iRange3 (eBin .Sub (eLen (eVar 4)) (eInt 1)) (eNeg (eInt 1)) (eNeg (eInt 1))) (blk [sExpr (eAppend (eVar 2) (eTup (xs [(eBl false), (eIx (eVar 4) (eVar 5))]))),
  sIf (bCmp .Gt (eVar 5) (eInt 0)) (blk [sExpr (eAppend (eVar 2) (eTup (xs [(eBl true), (eStr " ")])))]) (blk [])])])])])])]),
  sRet (eJoin (eStr "") (eVar 1))]
def φ_write_value : List T → FR := fnSem 6 b_write_value
def F_write_value : Fn := ⟨"write_value", 1, φ_write_value⟩
theorem E_write_value : F_write_value = ⟨"write_value", 1, fnSem 6 b_write_value⟩ := by unfold F_write_value φ_write_value; rfl
theorem D_write_value : DefOk (top 12) N_write_value ["value"] b_write_value := ⟨⟨rfl, rfl, rfl, by decide +kernel, rfl, by decide +kernel, by decide +kernel⟩, by kernel_rfl⟩
/-! ### _law_rare -/
abbrev N_law_rare : List Str := ["d", "many"]
def b_law_rare : Bl := blk [sRet (eCmp .Eq (eCall F_law_draw (xs [(eVar 0), (eVar 1)])) (eBin .FloorDiv (eVar 1) (eInt 2)))]
def φ_law_rare : List T → FR := fnSem 2 b_law_rare
def F_law_rare : Fn := ⟨"_law_rare", 2, φ_law_rare⟩
theorem E_law_rare : F_law_rare = ⟨"_law_rare", 2, fnSem 2 b_law_rare⟩ := by unfold F_law_rare φ_law_rare; rfl
theorem D_law_rare : DefOk (top 22) N_law_rare ["d", "many"] b_law_rare := ⟨⟨rfl, rfl, rfl, by decide +kernel, rfl, by decide +kernel, by decide +kernel⟩, by kernel_rfl⟩
/-! ### word_end -/
abbrev N_word_end : List Str := ["text", "place", "at"]
def b_word_end : Bl := blk [sSet (gN 2) (eVar 1),
  sWhile FUEL (bAnd [(bCmp .Lt (eVar 2) (eLen (eVar 0))), (bOr [(bCmp .In (eIx (eVar 0) (eVar 2)) (eGlob "DIGITS" (.str "0123456789"))), (bCmp .Eq (eIx (eVar 0) (eVar 2)) (eStr "-"))])]) (blk [sSet (gN 2) (eBin .Add (eVar 2) (eInt 1))]),
  sRet (eVar 2)]
def φ_word_end : List T → FR := fnSem 3 b_word_end
def F_word_end : Fn := ⟨"word_end", 2, φ_word_end⟩
theorem E_word_end : F_word_end = ⟨"word_end", 2, fnSem 3 b_word_end⟩ := by unfold F_word_end φ_word_end; rfl
theorem D_word_end : DefOk (top 13) N_word_end ["text", "place"] b_word_end := ⟨⟨rfl, rfl, rfl, by decide +kernel, rfl, by decide +kernel, by decide +kernel⟩, by kernel_rfl⟩
/-! ### number_in -/
abbrev N_number_in : List Str := ["word", "body"]
def b_number_in : Bl := blk [sIf (bCmp .Eq (eVar 0) (eStr "-")) (blk [sRet (eTup (xs [(eBl true), eNon]))]) (blk []),
  sSet (gN 1) (eIf (bCmp .Eq (eSlH (eVar 0) (eInt 1)) (eStr "-")) (eSlL (eVar 0) (eInt 1)) (eVar 0)),
  sIf (bOr [(bCmp .Eq (eVar 1) (eStr "")), (bCmp .In (eStr "-") (eVar 1)), (bCmp .Gt (eLen (eVar 1)) (eGlob "DIGITS_MOST" (.int 2500)))]) (blk [sRet (eTup (xs [(eBl false), eNon]))]) (blk []),
  sRet (eTup (xs [(eBl true), (eIntT (eVar 0))]))]
def φ_number_in : List T → FR := fnSem 2 b_number_in
def F_number_in : Fn := ⟨"number_in", 1, φ_number_in⟩
theorem E_number_in : F_number_in = ⟨"number_in", 1, fnSem 2 b_number_in⟩ := by unfold F_number_in φ_number_in; rfl
theorem D_number_in : DefOk (top 14) N_number_in ["word"] b_number_in := ⟨⟨rfl, rfl, rfl, by decide +kernel, rfl, by decide +kernel, by decide +kernel⟩, by kernel_rfl⟩
/-! ### is_plain -/
abbrev N_is_plain : List Str := ["row", "sign"]
def b_is_plain : Bl := blk [sFor (gN 1) (iSeq (eVar 0)) (blk [sIf (bNot (bChain .LtE .LtE (eStr " ") (eVar 1) (eStr "~"))) (blk [sRet (eBl false)]) (blk [])]),
  sRet (eBl true)]
def φ_is_plain : List T → FR := fnSem 2 b_is_plain
def F_is_plain : Fn := ⟨"is_plain", 1, φ_is_plain⟩
theorem E_is_plain : F_is_plain = ⟨"is_plain", 1, fnSem 2 b_is_plain⟩ := by unfold F_is_plain φ_is_plain; rfl
theorem D_is_plain : DefOk (top 9) N_is_plain ["row"] b_is_plain := ⟨⟨rfl, rfl, rfl, by decide +kernel, rfl, by decide +kernel, by decide +kernel⟩, by kernel_rfl⟩
/-! ### read_one -/
abbrev N_read_one : List Str := ["text", "place", "last", "word", "good", "number"]
def b_read_one : Bl := blk [sIf (bCmp .Eq (eIx (eVar 0) (eVar 1)) (eStr "\"")) (blk [sSet (gN 2) (eFind3 (eVar 0) (eStr "\"") (eBin .Add (eVar 1) (eInt 1))),
  sIf (bOr [(bCmp .Eq (eVar 2) (eNeg (eInt 1))), (bCmp .Gt (eBin .Sub (eBin .Sub (eVar 2) (eVar 1)) (eInt 1)) (eGlob "STRING_MOST" (.int 6400)))]) (blk [sRet (eTup (xs [(eBl false), eNon, (eVar 1)]))]) (blk []),
  sSet (gN 3) (eSl2 (eVar 0) (eBin .Add (eVar 1) (eInt 1)) (eVar 2)),
  sRet (eTup (xs [(eCall F_is_plain (xs [(eVar 3)])), (eVar 3), (eBin .Add (eVar 2) (eInt 1))]))]) (blk []),
  sSet (gN 2) (eCall F_word_end (xs [(eVar 0), (eVar 1)])),
  sSet (gT [4, 5]) (eCall F_number_in (xs [(eSl2 (eVar 0) (eVar 1) (eVar 2))])),
  sRet (eTup (xs [(eVar 4), (eVar 5), (eVar 2)]))]
def φ_read_one : List T → FR := fnSem 6 b_read_one
def F_read_one : Fn := ⟨"read_one", 2, φ_read_one⟩
theorem E_read_one : F_read_one = ⟨"read_one", 2, fnSem 6 b_read_one⟩ := by unfold F_read_one φ_read_one; rfl
theorem D_read_one : DefOk (top 15) N_read_one ["text", "place"] b_read_one := ⟨⟨rfl, rfl, rfl, by decide +kernel, rfl, by decide +kernel, by decide +kernel⟩, by kernel_rfl⟩
/-! ### read_parts -/
abbrev N_read_parts : List Str := ["text", "rows", "place", "sign", "row", "good", "value"]
def b_read_parts : Bl := blk [sSet (gN 1) (eLst (xs [(eLst (xs []))])),
  sSet (gN 2) (eInt 0),
  sWhile FUEL (bCmp .Lt (eVar 2) (eLen (eVar 0))) (blk [sSet (gN 3) (eIx (eVar 0) (eVar 2)),
  sIf (bCmp .Eq (eVar 3) (eStr "(")) (blk [sExpr (eAppend (eVar 1) (eLst (xs []))),
  sSet (gN 2) (eBin .Add (eVar 2) (eInt 1))]) (blk [sIf (bCmp .Eq (eVar 3) (eStr ")")) (blk [sSet (gN 4) (ePop (eVar 1)),
  sIf (bCmp .Eq (eLen (eVar 1)) (eInt 0)) (blk [sRet eNon]) (blk []),
  sExpr (eAppend (eIx (eVar 1) (eNeg (eInt 1))) (eTuple (eVar 4))),
  sSet (gN 2) (eBin .Add (eVar 2) (eInt 1))]) (blk [sIf (bCmp .Eq (eVar 3) (eStr " ")) (blk [sSet (gN 2) (eBin .Add (eVar 2) (eInt 1))]) (blk [sSet (gT [5, 6, 2]) (eCall F_read_one (xs [(eVar 0), (eVar 2)])),
  sIf (bNot (bTruth (eVar 5))) (blk [sRet eNon]) (blk []),
  sExpr (eAppend (eIx (eVar 1) (eNeg (eInt 1))) (eVar 6))])])]),
  sIf (bCmp .Gt (eLen (eVar 1)) (eBin .Add (eGlob "DEPTH_MOST" (.int 60)) (eInt 1))) (blk [sRet eNon]) (blk [])]),
  sRet (eIf (bCmp .Eq (eLen (eVar 1)) (eInt 1)) (eIx (eVar 1) (eInt 0)) eNon)]
def φ_read_parts : List T → FR := fnSem 7 b_read_parts
def F_read_parts : Fn := ⟨"read_parts", 1, φ_read_parts⟩
theorem E_read_parts : F_read_parts = ⟨"read_parts", 1, fnSem 7 b_read_parts⟩ := by unfold F_read_parts φ_read_parts; rfl
theorem D_read_parts : DefOk (top 16) N_read_parts ["text"] b_read_parts := ⟨⟨rfl, rfl, rfl, by decide +kernel, rfl, by decide +kernel, by decide +kernel⟩, by kernel_rfl⟩
/-! ### read_value -/
abbrev N_read_value : List Str := ["text", "parts"]
def b_read_value : Bl := blk [sIf (bCmp .Gt (eLen (eVar 0)) (eGlob "DOSSIER_MOST" (.int 400000))) (blk [sRaise 1 "TooLarge" (eGlob "DOSSIER_MOST" (.int 400000))]) (blk []),
  sSet (gN 1) (eCall F_read_parts (xs [(eVar 0)])),
  sIf (bOr [(bCmp .Is (eVar 1) eNon), (bCmp .NotEq (eLen (eVar 1)) (eInt 1)), (bCmp .NotEq (eCall F_write_value (xs [(eIx (eVar 1) (eInt 0))])) (eVar 0))]) (blk [sRaise 0 "BadText" (eInt 1)]) (blk []),
  sRet (eIx (eVar 1) (eInt 0))]
def φ_read_value : List T → FR := fnSem 2 b_read_value
def F_read_value : Fn := ⟨"read_value", 1, φ_read_value⟩
theorem E_read_value : F_read_value = ⟨"read_value", 1, fnSem 2 b_read_value⟩ := by unfold F_read_value φ_read_value; rfl
theorem D_read_value : DefOk (top 17) N_read_value ["text"] b_read_value := ⟨⟨rfl, rfl, rfl, by decide +kernel, rfl, by decide +kernel, by decide +kernel⟩, by kernel_rfl⟩
/-! ### _law_reads -/
abbrev N_law_reads : List Str := ["text", "error"]
def b_law_reads : Bl := blk [sTryRet 0 "BadText" 1 "line" .NotEq (blk [sExpr (eCall F_read_value (xs [(eVar 0)]))]) (eInt 1),
  sRet (eBl true)]
def φ_law_reads : List T → FR := fnSem 2 b_law_reads
def F_law_reads : Fn := ⟨"_law_reads", 1, φ_law_reads⟩
theorem E_law_reads : F_law_reads = ⟨"_law_reads", 1, fnSem 2 b_law_reads⟩ := by unfold F_law_reads φ_law_reads; rfl
theorem D_law_reads : DefOk (top 29) N_law_reads ["text"] b_law_reads := ⟨⟨rfl, rfl, rfl, by decide +kernel, rfl, by decide +kernel, by decide +kernel⟩, by kernel_rfl⟩
/-! ### _law_written -/
abbrev N_law_written : List Str := ["value", "one"]
def b_law_written (F_law_written : Fn) : Bl := blk [sIf (bCmp .Is (eVar 0) eNon) (blk [sRet (eStr "-")]) (blk []),
  sIf (bTruth (eIs (eVar 0) .str)) (blk [sRet (eBin .Add (eBin .Add (eStr "\"") (eVar 0)) (eStr "\""))]) (blk []),
  sIf (bTruth (eIs (eVar 0) .tuple)) (blk [sRet (eBin .Add (eBin .Add (eStr "(") (eJoin (eStr " ") (eLc ⟨[1], (gN 1), (iSeq (eVar 0)), none, (eCall F_law_written (xs [(eVar 1)]))⟩))) (eStr ")"))]) (blk []),
  sRet (eStrOf (eVar 0))]
def φ_law_written : Nat → List T → FR
  | 0 => fun _ => .stuck
  | n + 1 => fnSem 2 (b_law_written ⟨"_law_written", 1, φ_law_written n⟩)
def F_law_written_at (n : Nat) : Fn := ⟨"_law_written", 1, φ_law_written n⟩
theorem E0_law_written : F_law_written_at 0 = ⟨"_law_written", 1, fun _ => .stuck⟩ := rfl
theorem E_law_written (n : Nat) : F_law_written_at (n + 1) = ⟨"_law_written", 1, fnSem 2 (b_law_written (F_law_written_at n))⟩ := by unfold F_law_written_at; rw [φ_law_written]
abbrev F_law_written : Fn := F_law_written_at DEPTH
theorem D_law_written (n : Nat) : DefOk (top 28) N_law_written ["value"] (b_law_written (F_law_written_at n)) := ⟨⟨rfl, rfl, rfl, by decide +kernel, rfl, by decide +kernel, by decide +kernel⟩, by kernel_rfl⟩
/-! ### _law_is_int -/
abbrev N_law_is_int : List Str := ["thing"]
def b_law_is_int : Bl := blk [sRet (eAnd (eIs (eVar 0) .int) (eNot (eIs (eVar 0) .bool)))]
def φ_law_is_int : List T → FR := fnSem 1 b_law_is_int
def F_law_is_int : Fn := ⟨"_law_is_int", 1, φ_law_is_int⟩
theorem E_law_is_int : F_law_is_int = ⟨"_law_is_int", 1, fnSem 1 b_law_is_int⟩ := by unfold F_law_is_int φ_law_is_int; rfl
theorem D_law_is_int : DefOk (top 24) N_law_is_int ["thing"] b_law_is_int := ⟨⟨rfl, rfl, rfl, by decide +kernel, rfl, by decide +kernel, by decide +kernel⟩, by kernel_rfl⟩
/-! ### _law_is_plain -/
abbrev N_law_is_plain : List Str := ["thing", "pending", "step", "one"]
def b_law_is_plain : Bl := blk [sSet (gN 1) (eLst (xs [(eVar 0)])),
  sFor (gN 2) (iRange1 (eInt 200000)) (blk [sIf (bCmp .Eq (eLen (eVar 1)) (eInt 0)) (blk [sRet (eBl true)]) (blk []),
  sSet (gN 3) (ePop (eVar 1)),
  sIf (bTruth (eIs (eVar 3) .tuple)) (blk [sExpr (eExtend (eVar 1) (eList (eVar 3)))]) (blk [sIf (bNot (bOr [(bCmp .Is (eVar 3) eNon), (bTruth (eIs (eVar 3) .str)), (bTruth (eCall F_law_is_int (xs [(eVar 3)])))])) (blk [sRet (eBl false)]) (blk [])])]),
  sRet (eBl false)]
def φ_law_is_plain : List T → FR := fnSem 4 b_law_is_plain
def F_law_is_plain : Fn := ⟨"_law_is_plain", 1, φ_law_is_plain⟩
theorem E_law_is_plain : F_law_is_plain = ⟨"_law_is_plain", 1, fnSem 4 b_law_is_plain⟩ := by unfold F_law_is_plain φ_law_is_plain; rfl
theorem D_law_is_plain : DefOk (top 25) N_law_is_plain ["thing"] b_law_is_plain := ⟨⟨rfl, rfl, rfl, by decide +kernel, rfl, by decide +kernel, by decide +kernel⟩, by kernel_rfl⟩
/-! ### _law_wrong -/
abbrev N_law_wrong : List Str := ["d", "text", "way"]
def b_law_wrong : Bl := blk [sSet (gN 2) (eCall F_law_draw (xs [(eVar 0), (eInt 9)])),
  sIf (bCmp .Eq (eVar 2) (eInt 0)) (blk [sRet (eBin .Add (eVar 1) (eStr " "))]) (blk []),
  sIf (bCmp .Eq (eVar 2) (eInt 1)) (blk [sRet (eBin .Add (eStr " ") (eVar 1))]) (blk []),
  sIf (bCmp .Eq (eVar 2) (eInt 2)) (blk [sRet (eBin .Add (eVar 1) (eStr ")"))]) (blk []),
  sIf (bCmp .Eq (eVar 2) (eInt 3)) (blk [sRet (eBin .Add (eStr "(") (eVar 1))]) (blk []),
  sIf (bCmp .Eq (eVar 2) (eInt 4)) (blk [sRet (eBin .Add (eBin .Add (eStr "(") (eVar 1)) (eStr "  1)"))]) (blk []),
  sIf (bCmp .Eq (eVar 2) (eInt 5)) (blk [sRet (eBin .Add (eBin .Add (eStr "(") (eVar 1)) (eCall F_law_pick (xs [(eVar 0), (eLst (xs [(eStr " 01)"), (eStr " -0)"), (eStr " 1-)"), (eStr " --)"), (eStr " a)"), (eStr " +1)"), (eStr " 1_0)"), (eStr " ())(")]))])))]) (blk []),
  sIf (bCmp .Eq (eVar 2) (eInt 6)) (blk [sRet (eBin .Add (eBin .Add (eVar 1) (eStr " ")) (eVar 1))]) (blk []),
  sIf (bCmp .Eq (eVar 2) (eInt 7)) (blk [sRet (eBin .Add (eBin .Add (eStr "(") (eVar 1)) (eStr " \"a)"))]) (blk []),
  sRet (eBin .Add (eBin .Add (eStr "(") (eVar 1)) (eCall F_law_pick (xs [(eVar 0), (eLst (xs [(eStr "\"\")"), (eStr "\n)"), (eStr " \"\t\")"), (eStr " 1 )"), (eStr "( )")]))])))]
def φ_law_wrong : List T → FR := fnSem 3 b_law_wrong
def F_law_wrong : Fn := ⟨"_law_wrong", 2, φ_law_wrong⟩
theorem E_law_wrong : F_law_wrong = ⟨"_law_wrong", 2, fnSem 3 b_law_wrong⟩ := by unfold F_law_wrong φ_law_wrong; rfl
theorem D_law_wrong : DefOk (top 30) N_law_wrong ["d", "text"] b_law_wrong := ⟨⟨rfl, rfl, rfl, by decide +kernel, rfl, by decide +kernel, by decide +kernel⟩, by kernel_rfl⟩
/-! ### _law_nested -/
abbrev N_law_nested : List Str := ["depth", "value", "step"]
def b_law_nested : Bl := blk [sSet (gN 1) (eTup (xs [])),
  sFor (gN 2) (iRange1 (eBin .Sub (eVar 0) (eInt 1))) (blk [sSet (gN 1) (eTup (xs [(eVar 1)]))]),
  sRet (eVar 1)]
def φ_law_nested : List T → FR := fnSem 3 b_law_nested
def F_law_nested : Fn := ⟨"_law_nested", 1, φ_law_nested⟩
theorem E_law_nested : F_law_nested = ⟨"_law_nested", 1, fnSem 3 b_law_nested⟩ := by unfold F_law_nested φ_law_nested; rfl
theorem D_law_nested : DefOk (top 31) N_law_nested ["depth"] b_law_nested := ⟨⟨rfl, rfl, rfl, by decide +kernel, rfl, by decide +kernel, by decide +kernel⟩, by kernel_rfl⟩
/-! ### law -/
abbrev N_law : List Str := ["script", "d", "value", "text", "error"]
def b_law : Bl := blk [sSet (gN 1) (eCall F_law_begin (xs [(eVar 0)])),
  sSet (gN 2) (eCall F_law_value (xs [(eVar 1), (eInt 40), (eInt 5)])),
  sSet (gN 3) (eCall F_write_value (xs [(eVar 2)])),
  sIf (bOr [(bCmp .NotEq (eVar 3) (eCall F_law_written (xs [(eVar 2)]))), (bCmp .NotEq (eCall F_read_value (xs [(eVar 3)])) (eVar 2)), (bNot (bTruth (eCall F_law_is_plain (xs [(eCall F_read_value (xs [(eVar 3)]))]))))]) (blk [sRet (eBl false)]) (blk []),
  sIf (bOr [(bTruth (eCall F_law_reads (xs [(eCall F_law_wrong (xs [(eVar 1), (eVar 3)]))]))), (bTruth (eCall F_law_reads (xs [(eStr "")])))]) (blk [sRet (eBl false)]) (blk []),
  sIf (bOr [(bCmp .NotEq (eCall F_read_value (xs [(eCall F_write_value (xs [(eCall F_law_nested (xs [(eInt 60)]))]))])) (eCall F_law_nested (xs [(eInt 60)]))), (bTruth (eCall F_law_reads (xs [(eCall F_law_written (xs [(eCall F_law_nested (xs [(eInt 61)]))]))])))]) (blk [sRet (eBl false)]) (blk []),
  sIf (bOr [(bNot (bTruth (eCall F_law_reads (xs [(eBin .Add (eBin .Add (eStr "\"") (eBin .Mult (eStr "z") (eInt 6400))) (eStr "\""))])))), (bTruth (eCall F_law_reads (xs [(eBin .Add (eBin .Add (eStr "\"") (eBin .Mult (eStr "z") (eInt 6401))) (eStr "\""))])))]) (blk [sRet (eBl false)]) (blk []),
  sIf (bOr [(bNot (bTruth (eCall F_law_reads (xs [(eBin .Add (eStr "1") (eBin .Mult (eStr "0") (eInt 2499)))])))), (bTruth (eCall F_law_reads (xs [(eBin .Add (eStr "1") (eBin .Mult (eStr "0") (eInt 2500)))])))]) (blk [sRet (eBl false)]) (blk []),
  sIf (bTruth (eCall F_law_rare (xs [(eVar 1), (eInt 9)]))) (blk [sTryRet 1 "TooLarge" 4 "most" .Eq (blk [sExpr (eCall F_read_value (xs [(eBin .Add (eBin .Add (eStr "(") (eBin .Mult (eStr "1 ") (eInt 200000))) (eStr "1)"))]))]) (eInt 400000),
  sRet (eBl false)]) (blk []),
  sRet (eBl true)]
def φ_law : List T → FR := fnSem 5 b_law
def F_law : Fn := ⟨"law", 1, φ_law⟩
theorem E_law : F_law = ⟨"law", 1, fnSem 5 b_law⟩ := by unfold F_law φ_law; rfl
theorem D_law : DefOk (top 32) N_law ["script"] b_law := ⟨⟨rfl, rfl, rfl, by decide +kernel, rfl, by decide +kernel, by decide +kernel⟩, by kernel_rfl⟩
end K83
set_option Elab.async false
set_option linter.all false
set_option maxRecDepth 100000
set_option maxHeartbeats 400000
/-! k83: the end. -/
open PySem L2
namespace K83
open PySem L2 Pv
theorem P_law_begin {Γ : Gm} {k : Nat} (z_list : Γ.mg "list" = none) : b_law_begin.pre Γ k := by
  unfold b_law_begin; repeat' (first | refine And.intro ?_ ?_ | exact True.intro | assumption)
theorem P_law_draw {Γ : Gm} {k : Nat} (z_int : Γ.mg "int" = none) (z_len : Γ.mg "len" = none) (nd : NoDig Γ.K) : b_law_draw.pre Γ k := by
  unfold b_law_draw; repeat' (first | refine And.intro ?_ ?_ | exact True.intro | assumption)
theorem P_law_pick {Γ : Gm} {k : Nat} (z_len : Γ.mg "len" = none) (h_law_draw : Has Γ k F_law_draw) : b_law_pick.pre Γ k := by
  unfold b_law_pick; repeat' (first | refine And.intro ?_ ?_ | exact True.intro | assumption)
theorem P_law_pool {Γ : Gm} {k : Nat}  : b_law_pool.pre Γ k := by
  unfold b_law_pool; repeat' (first | refine And.intro ?_ ?_ | exact True.intro | assumption)
theorem P_law_leaf {Γ : Gm} {k : Nat} (h_law_draw : Has Γ k F_law_draw) (h_law_pick : Has Γ k F_law_pick) (h_law_pool : Has Γ k F_law_pool) : b_law_leaf.pre Γ k := by
  unfold b_law_leaf; repeat' (first | refine And.intro ?_ ?_ | exact True.intro | assumption)
theorem P_law_value {Γ : Gm} {k n : Nat} (z_tuple : Γ.mg "tuple" = none) (z_range : Γ.mg "range" = none) (h_law_draw : Has Γ k F_law_draw) (h_law_leaf : Has Γ k F_law_leaf) (ih : Has Γ k (F_law_value_at n)) : (b_law_value (F_law_value_at n)).pre Γ k := by
  unfold b_law_value; repeat' (first | refine And.intro ?_ ?_ | exact True.intro | assumption)
theorem P_write_value {Γ : Gm} {k : Nat} (z_isinstance : Γ.mg "isinstance" = none) (z_str : Γ.mg "str" = none) (z_int : Γ.mg "int" = none) (z_range : Γ.mg "range" = none) (z_len : Γ.mg "len" = none) (nd : NoDig Γ.K) : b_write_value.pre Γ k := by
  unfold b_write_value; repeat' (first | refine And.intro ?_ ?_ | exact True.intro | assumption)
theorem P_law_rare {Γ : Gm} {k : Nat} (h_law_draw : Has Γ k F_law_draw) : b_law_rare.pre Γ k := by
  unfold b_law_rare; repeat' (first | refine And.intro ?_ ?_ | exact True.intro | assumption)
theorem P_word_end {Γ : Gm} {k : Nat} (z_len : Γ.mg "len" = none) (G_DIGITS : ∃ v u, Γ.mg "DIGITS" = some u ∧ RelV v u ∧ ∀ H, Rep Γ.K H (.str "0123456789") v []) : b_word_end.pre Γ k := by
  unfold b_word_end; repeat' (first | refine And.intro ?_ ?_ | exact True.intro | assumption)
theorem P_number_in {Γ : Gm} {k : Nat} (z_int : Γ.mg "int" = none) (z_len : Γ.mg "len" = none) (G_DIGITS_MOST : ∃ v u, Γ.mg "DIGITS_MOST" = some u ∧ RelV v u ∧ ∀ H, Rep Γ.K H (.int 2500) v []) (nd : NoDig Γ.K) : b_number_in.pre Γ k := by
  unfold b_number_in; repeat' (first | refine And.intro ?_ ?_ | exact True.intro | assumption)
theorem P_is_plain {Γ : Gm} {k : Nat}  : b_is_plain.pre Γ k := by
  unfold b_is_plain; repeat' (first | refine And.intro ?_ ?_ | exact True.intro | assumption)
theorem P_read_one {Γ : Gm} {k : Nat} (G_STRING_MOST : ∃ v u, Γ.mg "STRING_MOST" = some u ∧ RelV v u ∧ ∀ H, Rep Γ.K H (.int 6400) v []) (h_word_end : Has Γ k F_word_end) (h_number_in : Has Γ k F_number_in) (h_is_plain : Has Γ k F_is_plain) : b_read_one.pre Γ k := by
  unfold b_read_one; repeat' (first | refine And.intro ?_ ?_ | exact True.intro | assumption)
theorem P_read_parts {Γ : Gm} {k : Nat} (z_len : Γ.mg "len" = none) (z_tuple : Γ.mg "tuple" = none) (G_DEPTH_MOST : ∃ v u, Γ.mg "DEPTH_MOST" = some u ∧ RelV v u ∧ ∀ H, Rep Γ.K H (.int 60) v []) (h_read_one : Has Γ k F_read_one) : b_read_parts.pre Γ k := by
  unfold b_read_parts; repeat' (first | refine And.intro ?_ ?_ | exact True.intro | assumption)
theorem P_read_value {Γ : Gm} {k : Nat} (z_len : Γ.mg "len" = none) (G_DOSSIER_MOST : ∃ v u, Γ.mg "DOSSIER_MOST" = some u ∧ RelV v u ∧ ∀ H, Rep Γ.K H (.int 400000) v []) (X_TooLarge : XOk Γ 1 "TooLarge") (Y_TooLarge : Γ.xi.xf 1 = "most") (X_BadText : XOk Γ 0 "BadText") (Y_BadText : Γ.xi.xf 0 = "line") (h_read_parts : Has Γ k F_read_parts) (h_write_value : Has Γ k F_write_value) : b_read_value.pre Γ k := by
  unfold b_read_value; repeat' (first | refine And.intro ?_ ?_ | exact True.intro | assumption)
theorem P_law_reads {Γ : Gm} {k : Nat} (X_BadText : XOk Γ 0 "BadText") (Y_BadText : Γ.xi.xf 0 = "line") (h_read_value : Has Γ k F_read_value) : b_law_reads.pre Γ k := by
  unfold b_law_reads; repeat' (first | refine And.intro ?_ ?_ | exact True.intro | assumption)
theorem P_law_written {Γ : Gm} {k n : Nat} (z_isinstance : Γ.mg "isinstance" = none) (z_str : Γ.mg "str" = none) (z_tuple : Γ.mg "tuple" = none) (nd : NoDig Γ.K) (ih : Has Γ k (F_law_written_at n)) : (b_law_written (F_law_written_at n)).pre Γ k := by
  unfold b_law_written; repeat' (first | refine And.intro ?_ ?_ | exact True.intro | assumption)
theorem P_law_is_int {Γ : Gm} {k : Nat} (z_isinstance : Γ.mg "isinstance" = none) (z_int : Γ.mg "int" = none) (z_bool : Γ.mg "bool" = none) : b_law_is_int.pre Γ k := by
  unfold b_law_is_int; repeat' (first | refine And.intro ?_ ?_ | exact True.intro | assumption)
theorem P_law_is_plain {Γ : Gm} {k : Nat} (z_range : Γ.mg "range" = none) (z_isinstance : Γ.mg "isinstance" = none) (z_tuple : Γ.mg "tuple" = none) (z_len : Γ.mg "len" = none) (z_list : Γ.mg "list" = none) (z_str : Γ.mg "str" = none) (h_law_is_int : Has Γ k F_law_is_int) : b_law_is_plain.pre Γ k := by
  unfold b_law_is_plain; repeat' (first | refine And.intro ?_ ?_ | exact True.intro | assumption)
theorem P_law_wrong {Γ : Gm} {k : Nat} (h_law_draw : Has Γ k F_law_draw) (h_law_pick : Has Γ k F_law_pick) : b_law_wrong.pre Γ k := by
  unfold b_law_wrong; repeat' (first | refine And.intro ?_ ?_ | exact True.intro | assumption)
theorem P_law_nested {Γ : Gm} {k : Nat} (z_range : Γ.mg "range" = none) : b_law_nested.pre Γ k := by
  unfold b_law_nested; repeat' (first | refine And.intro ?_ ?_ | exact True.intro | assumption)
theorem P_law {Γ : Gm} {k : Nat} (X_TooLarge : XOk Γ 1 "TooLarge") (Y_TooLarge : Γ.xi.xf 1 = "most") (h_law_begin : Has Γ k F_law_begin) (h_law_value : Has Γ k F_law_value) (h_write_value : Has Γ k F_write_value) (h_law_rare : Has Γ k F_law_rare) (h_law_reads : Has Γ k F_law_reads) (h_law_written : Has Γ k F_law_written) (h_read_value : Has Γ k F_read_value) (h_law_is_plain : Has Γ k F_law_is_plain) (h_law_wrong : Has Γ k F_law_wrong) (h_law_nested : Has Γ k F_law_nested) : b_law.pre Γ k := by
  unfold b_law; repeat' (first | refine And.intro ?_ ?_ | exact True.intro | assumption)
end K83
set_option Elab.async false
set_option linter.all false
set_option maxRecDepth 100000
set_option maxHeartbeats 1000000
/-! Pv part P: rules to run the terms. -/
namespace Pv
open PySem L2
section
variable {a : Sx} {l : List Sx} {ρ ρ1 ρ2 : Rho} {t : T} {c : Nat}
theorem b_nil : (blk []).sem ρ = .nx ρ := rfl
theorem b_nx (h : a.sem ρ = .nx ρ1) : (blk (a :: l)).sem ρ = (blk l).sem ρ1 := by
  show seqS a.sem (blk l).sem ρ = _
  unfold seqS; rw [h]
theorem b_ret (h : a.sem ρ = .ret t ρ1) : (blk (a :: l)).sem ρ = .ret t ρ1 := by
  show seqS a.sem (blk l).sem ρ = _
  unfold seqS; rw [h]
theorem b_ex (h : a.sem ρ = .ex c t ρ1) : (blk (a :: l)).sem ρ = .ex c t ρ1 := by
  show seqS a.sem (blk l).sem ρ = _
  unfold seqS; rw [h]
theorem b_one (h : ∀ x, a.sem ρ = x → True) : (blk [a]).sem ρ = a.sem ρ := by
  show seqS a.sem (blk []).sem ρ = _
  unfold seqS
  cases a.sem ρ <;> rfl
end
theorem i_c {q : Bx} {x y : Bl} {ρ ρ1 : Rho} {k τ : Bool} (h : q.sem ρ = .ok k ρ1 τ) : (sIf q x y).sem ρ = if k = true then x.sem ρ1 else y.sem ρ1 := by
  show ifS q.sem x.sem y.sem ρ = _
  unfold ifS; rw [h]
theorem i_t {q : Bx} {x y : Bl} {ρ ρ1 : Rho} {τ : Bool} (h : q.sem ρ = .ok true ρ1 τ) : (sIf q x y).sem ρ = x.sem ρ1 := (i_c h).trans (if_pos rfl)
theorem i_f {q : Bx} {x y : Bl} {ρ ρ1 : Rho} {τ : Bool} (h : q.sem ρ = .ok false ρ1 τ) : (sIf q x y).sem ρ = y.sem ρ1 := (i_c h).trans (if_neg Bool.false_ne_true)
theorem s_set {tg : Tgt} {a : Ex} {ρ ρ1 ρ2 : Rho} {t : T} {τ : Bool} (h : a.sem ρ = .ok (.v t) ρ1 τ) (h2 : tg.sem t ρ1 = some ρ2) : (sSet tg a).sem ρ = .nx ρ2 := by
  show asgS tg.sem a.sem ρ = _
  unfold asgS; rw [h]; simp only; rw [h2]
theorem s_set_ex {tg : Tgt} {a : Ex} {ρ ρ1 : Rho} {t : T} {c : Nat} (h : a.sem ρ = .ex c t ρ1) : (sSet tg a).sem ρ = .ex c t ρ1 := by
  show asgS tg.sem a.sem ρ = _
  unfold asgS; rw [h]
theorem s_ret {a : Ex} {ρ ρ1 : Rho} {t : T} {τ : Bool} (h : a.sem ρ = .ok (.v t) ρ1 τ) : (sRet a).sem ρ = .ret t ρ1 := by
  show retS a.sem ρ = _
  unfold retS; rw [h]
theorem fn_ret {n : Nat} {b : Bl} {ts : List T} {t : T} {ρ0 ρ ρb : Rho} (e : ts.map some ++ List.replicate (n - ts.length) none = ρ0) (h : b.sem ρ0 = .ret t ρ) (eb : back ts 0 ρ = ρb) (c : calmArgs b.asg 0 ts = true) : fnSem n b ts = .ok t ρb := by
  unfold fnSem
  rw [if_pos c, e, h, ← eb]
  rfl
theorem fn_nx {n : Nat} {b : Bl} {ts : List T} {ρ0 ρ ρb : Rho} (e : ts.map some ++ List.replicate (n - ts.length) none = ρ0) (h : b.sem ρ0 = .nx ρ) (eb : back ts 0 ρ = ρb) (c : calmArgs b.asg 0 ts = true) : fnSem n b ts = .ok .non ρb := by
  unfold fnSem
  rw [if_pos c, e, h, ← eb]
  rfl
theorem fn_ex {n : Nat} {b : Bl} {ts : List T} {x : Nat} {t : T} {ρ0 ρ ρb : Rho} (e : ts.map some ++ List.replicate (n - ts.length) none = ρ0) (h : b.sem ρ0 = .ex x t ρ) (eb : back ts 0 ρ = ρb) (c : calmArgs b.asg 0 ts = true) : fnSem n b ts = .ex x t ρb := by
  unfold fnSem
  rw [if_pos c, e, h, ← eb]
  rfl
/-- a call in a value's place -/
theorem e_call {F : Fn} {a : Xs} {ρ ρ1 ρ2 : Rho} {os : List O} {ts : List T} {r : T} {ρA : Rho} {τ : Bool} (h : evL a.sems ρ = .ok os ρ1 τ) (g : getOs ρ1 os = some ts) (hn : ts.length = F.np) (hs : nodupB (slots os) = true) (f : F.φ ts = .ok r ρA) (w : wb os ρA ρ1 = some ρ2) :
    (eCall F a).sem ρ = .ok (.v r) ρ2 (τ || !(slots os).isEmpty) := by
  show effSem F.np a.sems F.φ ρ = _
  unfold effSem
  rw [h]; simp only; rw [g]; simp only
  rw [if_pos ⟨hs, hn⟩, f]
  unfold effFin
  simp only
  rw [w]
theorem e_call_ex {F : Fn} {a : Xs} {ρ ρ1 ρ2 : Rho} {os : List O} {ts : List T} {c : Nat} {r : T} {ρA : Rho} {τ : Bool} (h : evL a.sems ρ = .ok os ρ1 τ) (g : getOs ρ1 os = some ts) (hn : ts.length = F.np) (hs : nodupB (slots os) = true) (f : F.φ ts = .ex c r ρA) (w : wb os ρA ρ1 = some ρ2) :
    (eCall F a).sem ρ = .ex c r ρ2 := by
  show effSem F.np a.sems F.φ ρ = _
  unfold effSem
  rw [h]; simp only; rw [g]; simp only
  rw [if_pos ⟨hs, hn⟩, f]
  unfold effFin
  simp only
  rw [w]
theorem ev2 {s1 s2 : Rho → R} {ρ ρ1 ρ2 : Rho} {o1 o2 : O} {τ1 τ2 : Bool} (h1 : s1 ρ = .ok o1 ρ1 τ1) (h2 : s2 ρ1 = .ok o2 ρ2 τ2) (d : ((o1.deep && τ2) || !o1.there ρ2) = false) (d2 : o2.there ρ2 = true) : evL [s1, s2] ρ = .ok [o1, o2] ρ2 (τ1 || τ2) := by
  have e2 : evL [s2] ρ1 = .ok [o2] ρ2 (τ2 || false) := by
    simp only [evL, h2]
    rw [if_neg (by simp [d2])]
  have e : evL (s1 :: [s2]) ρ = (match s1 ρ with
    | .ok o ρ1 τ1 => match evL [s2] ρ1 with
      | .ok os ρ2 τ2 => if (o.deep && τ2) || !o.there ρ2 then .stuck else .ok (o :: os) ρ2 (τ1 || τ2)
      | .ex c t ρ2 => .ex c t ρ2
      | .stuck => .stuck
    | .ex c t ρ1 => .ex c t ρ1
    | .stuck => .stuck) := rfl
  rw [e, h1]
  simp only
  rw [e2]
  simp only [Bool.or_false]
  rw [if_neg (by rw [d]; exact Bool.false_ne_true)]
theorem ev1 {s1 : Rho → R} {ρ ρ1 : Rho} {o1 : O} {τ1 : Bool} (h1 : s1 ρ = .ok o1 ρ1 τ1) (d : o1.there ρ1 = true) : evL [s1] ρ = .ok [o1] ρ1 τ1 := by
  simp only [evL, h1]
  rw [if_neg (by simp [d])]
  simp
theorem e_bin {op : Operator} {a b : Ex} {ρ ρ1 ρ2 : Rho} {o1 o2 : O} {x y z : T} {τ1 τ2 : Bool} (h1 : a.sem ρ = .ok o1 ρ1 τ1) (h2 : b.sem ρ1 = .ok o2 ρ2 τ2) (d : ((o1.deep && τ2) || !o1.there ρ2) = false) (d2 : o2.there ρ2 = true) (g1 : getO ρ2 o1 = some x) (g2 : getO ρ2 o2 = some y)
    (hz : binT op x y = some z) : (eBin op a b).sem ρ = .ok (.v z) ρ2 (τ1 || τ2) := by
  show opSem [a.sem, b.sem] (f2 (binT op)) ρ = _
  unfold opSem
  rw [ev2 h1 h2 d d2]
  simp only [f2, g1, g2, hz]
theorem e_cmp {op : CmpOp} {a b : Ex} {ρ ρ1 ρ2 : Rho} {o1 o2 : O} {x y : T} {k : Bool} {τ1 τ2 : Bool} (h1 : a.sem ρ = .ok o1 ρ1 τ1) (h2 : b.sem ρ1 = .ok o2 ρ2 τ2) (d : ((o1.deep && τ2) || !o1.there ρ2) = false) (d2 : o2.there ρ2 = true) (g1 : getO ρ2 o1 = some x) (g2 : getO ρ2 o2 = some y)
    (hz : cmpT op x y = some k) : (eCmp op a b).sem ρ = .ok (.v (.bl k)) ρ2 (τ1 || τ2) := by
  show opSem [a.sem, b.sem] (f2 (cmpV op)) ρ = _
  unfold opSem
  rw [ev2 h1 h2 d d2]
  simp only [f2, g1, g2, cmpV, hz, Option.map_some]
theorem b_cmp {op : CmpOp} {a b : Ex} {ρ ρ1 ρ2 : Rho} {o1 o2 : O} {x y : T} {k : Bool} {τ1 τ2 : Bool} (h1 : a.sem ρ = .ok o1 ρ1 τ1) (h2 : b.sem ρ1 = .ok o2 ρ2 τ2) (d : ((o1.deep && τ2) || !o1.there ρ2) = false) (d2 : o2.there ρ2 = true) (g1 : getO ρ2 o1 = some x) (g2 : getO ρ2 o2 = some y)
    (hz : cmpT op x y = some k) : (bCmp op a b).sem ρ = .ok k ρ2 (τ1 || τ2) := by
  show boolSem (eCmp op a b).sem ρ = _
  unfold boolSem
  rw [e_cmp h1 h2 d d2 g1 g2 hz]
theorem b_tru {a : Ex} {ρ ρ1 : Rho} {o : O} {t : T} {k τ : Bool} (h : a.sem ρ = .ok o ρ1 τ) (g : getO ρ1 o = some t) (hk : truthT t = some k) : (bTruth a).sem ρ = .ok k ρ1 τ := by
  show truSem a.sem ρ = _
  unfold truSem
  rw [h]; simp only; rw [g]; simp only; rw [hk]
theorem b_not {a : Bx} {ρ ρ1 : Rho} {k τ : Bool} (h : a.sem ρ = .ok k ρ1 τ) : (bNot a).sem ρ = .ok (!k) ρ1 τ := by
  show notSem a.sem ρ = _
  unfold notSem
  rw [h]
theorem or_1 {a : Bx} {ρ : Rho} : (bOr [a]).sem ρ = a.sem ρ := rfl
theorem and_1 {a : Bx} {ρ : Rho} : (bAnd [a]).sem ρ = a.sem ρ := rfl
theorem or_t {a b : Bx} {r : List Bx} {ρ ρ1 : Rho} {τ : Bool} (h : a.sem ρ = .ok true ρ1 τ) : (bOr (a :: b :: r)).sem ρ = .ok true ρ1 τ := by
  show orSem (a.sem :: b.sem :: r.map Bx.sem) ρ = _
  unfold orSem
  rw [h]
theorem or_f {a b : Bx} {r : List Bx} {ρ ρ1 ρ2 : Rho} {k τ τ2 : Bool} (h : a.sem ρ = .ok false ρ1 τ) (h2 : (bOr (b :: r)).sem ρ1 = .ok k ρ2 τ2) : (bOr (a :: b :: r)).sem ρ = .ok k ρ2 (τ || τ2) := by
  show orSem (a.sem :: b.sem :: r.map Bx.sem) ρ = _
  unfold orSem
  rw [h]
  simp only
  rw [show orSem (b.sem :: r.map Bx.sem) ρ1 = .ok k ρ2 τ2 from h2]
theorem and_f {a b : Bx} {r : List Bx} {ρ ρ1 : Rho} {τ : Bool} (h : a.sem ρ = .ok false ρ1 τ) : (bAnd (a :: b :: r)).sem ρ = .ok false ρ1 τ := by
  show andSem (a.sem :: b.sem :: r.map Bx.sem) ρ = _
  unfold andSem
  rw [h]
theorem and_t {a b : Bx} {r : List Bx} {ρ ρ1 ρ2 : Rho} {k τ τ2 : Bool} (h : a.sem ρ = .ok true ρ1 τ) (h2 : (bAnd (b :: r)).sem ρ1 = .ok k ρ2 τ2) : (bAnd (a :: b :: r)).sem ρ = .ok k ρ2 (τ || τ2) := by
  show andSem (a.sem :: b.sem :: r.map Bx.sem) ρ = _
  unfold andSem
  rw [h]
  simp only
  rw [show andSem (b.sem :: r.map Bx.sem) ρ1 = .ok k ρ2 τ2 from h2]
theorem s_setix {i0 : Nat} {j : Int} {a : Ex} {ρ ρ1 : Rho} {t : T} {ts : List T} {k : Nat} {τ : Bool} (h : a.sem ρ = .ok (.v t) ρ1 τ) (hd : ρ1[i0]? = some (some (.lst ts))) (hk : ixN ts.length j = some k) :
    (sSetIx (eVar i0) (eInt j) a).sem ρ = .nx (ρ1.set i0 (some (.lst (ts.set k t)))) := by
  have ev : (eVar i0).sem ρ1 = .ok (.p i0 []) ρ1 false := by
    show varSem i0 ρ1 = _
    unfold varSem
    rw [hd]
    rfl
  have th : O.there ρ1 (.p i0 []) = true := by simp only [O.there, hd]
  have e : evL [a.sem, (eVar i0).sem, (eInt j).sem] ρ = .ok [.v t, .p i0 [], .v (.int j)] ρ1 (τ || (false || (false || false))) := by
    have e3 : evL [(eInt j).sem] ρ1 = .ok [.v (.int j)] ρ1 (false || false) := rfl
    have e2 : evL [(eVar i0).sem, (eInt j).sem] ρ1 = .ok [.p i0 [], .v (.int j)] ρ1 (false || (false || false)) := by
      unfold evL
      rw [ev]
      simp only
      rw [e3]
      simp only
      rw [if_neg (by simp [th, O.deep])]
    unfold evL
    rw [h]
    simp only
    rw [e2]
    simp only
    rw [if_neg (by simp [O.deep, O.there])]
  show effS (effSem 3 [a.sem, (eVar i0).sem, (eInt j).sem] setF) ρ = _
  unfold effS effSem
  rw [e]
  simp only [getOs, getO, hd, T.at]
  rw [if_pos ⟨rfl, rfl⟩]
  simp only [setF, hk, effFin, wb, hd, T.put]
theorem e_ix {a b : Ex} {ρ ρ1 ρ2 : Rho} {o1 o2 o : O} {x y : T} {τ1 τ2 : Bool} (h1 : a.sem ρ = .ok o1 ρ1 τ1) (h2 : b.sem ρ1 = .ok o2 ρ2 τ2) (d : ((o1.deep && τ2) || !o1.there ρ2) = false) (d2 : o2.there ρ2 = true) (g1 : getO ρ2 o1 = some x) (g2 : getO ρ2 o2 = some y)
    (hz : ixO ρ2 o1 x y = some o) : (eIx a b).sem ρ = .ok o ρ2 (τ1 || τ2) := by
  show ixSem a.sem b.sem ρ = _
  unfold ixSem
  rw [ev2 h1 h2 d d2]
  simp only [g1, g2, hz]
theorem e_if {c : Bx} {a b : Ex} {ρ ρ1 ρ2 : Rho} {k τ τ2 : Bool} {o : O} (h : c.sem ρ = .ok k ρ1 τ) (h2 : (if k = true then a.sem ρ1 else b.sem ρ1) = .ok o ρ2 τ2) : (eIf c a b).sem ρ = .ok o ρ2 (τ || τ2) := by
  show ifV c.sem a.sem b.sem ρ = _
  unfold ifV
  rw [h]
  simp only
  cases k with
  | true => rw [if_pos rfl] at h2 ⊢; rw [h2]
  | false => rw [if_neg Bool.false_ne_true] at h2 ⊢; rw [h2]
theorem chain_f {op op' : CmpOp} {a b c : Ex} {ρ : Rho} {s t : T} (h1 : a.sem ρ = .ok (.v s) ρ false) (h2 : b.sem ρ = .ok (.v t) ρ false) (im : (s.imm && t.imm) = true) (hk : cmpT op s t = some false) : (bChain op op' a b c).sem ρ = .ok false ρ false := by
  show chainSem op op' a.sem b.sem c.sem ρ = _
  unfold chainSem
  rw [h1]; simp only; rw [h2]; simp only; rw [im, hk]
theorem chain_t {op op' : CmpOp} {a b c : Ex} {ρ : Rho} {s t u : T} {k : Bool} (h1 : a.sem ρ = .ok (.v s) ρ false) (h2 : b.sem ρ = .ok (.v t) ρ false) (h3 : c.sem ρ = .ok (.v u) ρ false) (im : (s.imm && t.imm) = true) (im2 : u.imm = true) (hk : cmpT op s t = some true) (hk2 : cmpT op' t u = some k) :
    (bChain op op' a b c).sem ρ = .ok k ρ false := by
  show chainSem op op' a.sem b.sem c.sem ρ = _
  unfold chainSem
  rw [h1]; simp only; rw [h2]; simp only; rw [im, hk]; simp only; rw [h3]; simp only; rw [im2, hk2]
theorem s_for {tg : Tgt} {it : Ix} {b : Bl} {ρ ρ1 : Rho} {items : List T} {τ : Bool} (h : it.sem ρ = .ok items ρ1 τ false) : (sFor tg it b).sem ρ = forF tg.sem b.sem items ρ1 := by
  show forS it.sem tg.sem b.sem ρ = _
  unfold forS
  rw [h]
  rfl
theorem f_nil {set : T → Rho → Option Rho} {b : Rho → RS} {ρ : Rho} : forF set b [] ρ = .nx ρ := rfl
theorem f_nx {set : T → Rho → Option Rho} {b : Rho → RS} {t : T} {ts : List T} {ρ ρ1 ρ2 : Rho} (h : set t ρ = some ρ1) (h2 : b ρ1 = .nx ρ2) : forF set b (t :: ts) ρ = forF set b ts ρ2 := by
  simp only [forF, h, h2]
theorem f_ret {set : T → Rho → Option Rho} {b : Rho → RS} {t r : T} {ts : List T} {ρ ρ1 ρ2 : Rho} (h : set t ρ = some ρ1) (h2 : b ρ1 = .ret r ρ2) : forF set b (t :: ts) ρ = .ret r ρ2 := by
  simp only [forF, h, h2]
theorem s_while {n : Nat} {c : Bx} {b : Bl} {ρ : Rho} : (sWhile n c b).sem ρ = whileF n c.sem b.sem ρ := rfl
theorem w_end {n : Nat} {c : Rho → RB} {b : Rho → RS} {ρ ρ1 : Rho} {τ : Bool} (h : c ρ = .ok false ρ1 τ) : whileF (n + 1) c b ρ = .nx ρ1 := by
  simp only [whileF, h]
  rfl
theorem w_nx {n : Nat} {c : Rho → RB} {b : Rho → RS} {ρ ρ1 ρ2 : Rho} {τ : Bool} (h : c ρ = .ok true ρ1 τ) (h2 : b ρ1 = .nx ρ2) : whileF (n + 1) c b ρ = whileF n c b ρ2 := by
  simp only [whileF, h, h2]
  rfl
theorem w_ret {n : Nat} {c : Rho → RB} {b : Rho → RS} {ρ ρ1 ρ2 : Rho} {τ : Bool} {t : T} (h : c ρ = .ok true ρ1 τ) (h2 : b ρ1 = .ret t ρ2) : whileF (n + 1) c b ρ = .ret t ρ2 := by
  simp only [whileF, h, h2]
  rfl
/-! ### texts -/
theorem e_len_s {a : Ex} {ρ ρ1 : Rho} {o : O} {z : Str} {τ : Bool} (h : a.sem ρ = .ok o ρ1 τ) (d : o.there ρ1 = true) (g : getO ρ1 o = some (.str z)) (hz : z.length ≤ sizeLine) : (eLen a).sem ρ = .ok (.v (.int z.length)) ρ1 τ := by
  show opSem [a.sem] (f1 lenT) ρ = _
  unfold opSem
  rw [ev1 h d]
  simp only [f1, g, lenT, if_pos hz]
theorem ix_str {ρ : Rho} {o : O} {z : Str} {i : Int} {c : Nat} (hz : z.length ≤ sizeLine) (hc : atI z.cps.toList i = some c) : ixO ρ o (.str z) (.int i) = some (.v (.str ⟨#[c]⟩)) := by
  simp only [ixO, if_pos hz, hc]
theorem shaped_str {x : Str} (h : ∀ c ∈ x.cps.toList, c < 0x110000) : SeqAt.shaped (T.str x).toD = true := by
  have : PyData.strOk x = true := by
    unfold PyData.strOk
    rw [← Array.all_toList, List.all_eq_true]
    intro c hc
    exact decide_eq_true (h c hc)
  show (PyData.canLay0 (.str x) && decide (PyData.depth (.str x) ≤ 64)) = true
  rw [show PyData.canLay0 (.str x) = PyData.strOk x from rfl, this]
  rfl
theorem eq_str {x y : Str} (hx : ∀ c ∈ x.cps.toList, c < 0x110000) (hy : ∀ c ∈ y.cps.toList, c < 0x110000) : eqT (.str x) (.str y) = some (x == y) := by
  unfold eqT
  rw [if_pos ⟨shaped_str hx, shaped_str hy⟩]
  rfl
theorem allV_map : ∀ ts : List T, allV (ts.map .v) = some ts
  | [] => rfl
  | t :: ts => by simp only [List.map_cons, allV, allV_map ts]
theorem e_tup {a : Xs} {ρ ρ1 : Rho} {ts : List T} {τ : Bool} (h : evL a.sems ρ = .ok (ts.map .v) ρ1 τ) (hl : ts.length ≤ 10000) : (eTup a).sem ρ = .ok (.v (.tup ts)) ρ1 τ := by
  show opSem a.sems tupF ρ = _
  unfold opSem
  rw [h]
  simp only [tupF, allV_map, if_pos hl]
theorem evc {s : Rho → R} {ss : List (Rho → R)} {ρ ρ1 ρ2 : Rho} {t : T} {os : List O} {τ1 τ2 : Bool} (h : s ρ = .ok (.v t) ρ1 τ1) (h2 : evL ss ρ1 = .ok os ρ2 τ2) : evL (s :: ss) ρ = .ok (.v t :: os) ρ2 (τ1 || τ2) := by
  have e : evL (s :: ss) ρ = (match s ρ with
    | .ok o ρ1 τ1 => match evL ss ρ1 with
      | .ok os ρ2 τ2 => if (o.deep && τ2) || !o.there ρ2 then .stuck else .ok (o :: os) ρ2 (τ1 || τ2)
      | .ex c t ρ2 => .ex c t ρ2
      | .stuck => .stuck
    | .ex c t ρ1 => .ex c t ρ1
    | .stuck => .stuck) := rfl
  rw [e, h]
  simp only
  rw [h2]
  simp only
  rw [if_neg (by simp [O.deep, O.there])]
theorem evn {ρ : Rho} : evL [] ρ = .ok [] ρ false := rfl
/-! ### lists in slots -/
theorem v_lst {i : Nat} {ρ : Rho} {ts : List T} (h : ρ[i]? = some (some (.lst ts))) : (eVar i).sem ρ = .ok (.p i []) ρ false := by
  show varSem i ρ = _
  unfold varSem
  rw [h]
  rfl
theorem v_imm {i : Nat} {ρ : Rho} {t : T} (h : ρ[i]? = some (some t)) (im : t.imm = true) : (eVar i).sem ρ = .ok (.v t) ρ false := by
  show varSem i ρ = _
  unfold varSem
  rw [h]
  simp only
  rw [if_pos im]
theorem k_lst {i : Nat} {ρ : Rho} {ts : List T} (h : ρ[i]? = some (some (.lst ts))) : kindSem isLst (eVar i).sem ρ = .ok (.p i []) ρ false := by
  unfold kindSem
  rw [v_lst h]
  simp only [getO, h, T.at]
  rfl
theorem s_app {i : Nat} {a : Ex} {ρ ρ1 : Rho} {ts ts1 : List T} {t : T} {τ : Bool} (h : ρ[i]? = some (some (.lst ts1))) (ha : a.sem ρ = .ok (.v t) ρ1 τ) (h1 : ρ1[i]? = some (some (.lst ts))) (hl : ts.length < sizeLine) :
    (sExpr (eAppend (eVar i) a)).sem ρ = .nx (ρ1.set i (some (.lst (ts ++ [t])))) := by
  show exprS (effSem 2 [kindSem isLst (eVar i).sem, a.sem] appendF) ρ = _
  have th : O.there ρ1 (.p i []) = true := by simp only [O.there, h1]
  unfold exprS effSem
  rw [ev2 (k_lst h) ha (by simp [th, O.deep]) rfl]
  simp only [getOs, getO, h1, T.at]
  rw [if_pos ⟨rfl, rfl⟩]
  simp only [appendF, if_pos hl, effFin, wb, h1, T.put]
theorem e_pop {i : Nat} {ρ : Rho} {ts : List T} {t : T} (h : ρ[i]? = some (some (.lst ts))) (hl : ts.getLast? = some t) : (ePop (eVar i)).sem ρ = .ok (.v t) (ρ.set i (some (.lst ts.dropLast))) true := by
  show effSem 1 [kindSem isLst (eVar i).sem] popF ρ = _
  unfold effSem
  rw [ev1 (k_lst h) (by simp only [O.there, h])]
  simp only [getOs, getO, h, T.at]
  rw [if_pos ⟨rfl, rfl⟩]
  simp only [popF, hl, effFin, wb, h, T.put]
  rfl
theorem ixN_last (n : Nat) : ixN (n + 1) (-1) = some n := by
  unfold ixN
  rw [if_neg (by decide), if_pos (by omega)]
  congr 1
  omega
theorem ix_last {i : Nat} {ρ : Rho} {pre : List T} {row : List T} (h : ρ[i]? = some (some (.lst (pre ++ [.lst row])))) : (eIx (eVar i) (eNeg (eInt 1))).sem ρ = .ok (.p i [pre.length]) ρ false := by
  have th : O.there ρ (.p i []) = true := by simp only [O.there, h]
  refine e_ix (τ1 := false) (τ2 := false) (o2 := .v (.int (-1))) (x := .lst (pre ++ [.lst row])) (y := .int (-1)) (v_lst h) rfl (by simp [th, O.deep]) rfl (by simp only [getO, h, T.at]) rfl ?_
  have e : (pre ++ [T.lst row])[pre.length]? = some (.lst row) := by simp
  simp only [ixO, List.length_append, List.length_cons, List.length_nil, Nat.zero_add, ixN_last, e, itemO]
  rfl
theorem s_app_last {i : Nat} {a : Ex} {ρ : Rho} {pre row : List T} {t : T} (h : ρ[i]? = some (some (.lst (pre ++ [.lst row])))) (ha : a.sem ρ = .ok (.v t) ρ false) (hl : row.length < sizeLine) :
    (sExpr (eAppend (eIx (eVar i) (eNeg (eInt 1))) a)).sem ρ = .nx (ρ.set i (some (.lst (pre ++ [.lst (row ++ [t])])))) := by
  show exprS (effSem 2 [kindSem isLst (eIx (eVar i) (eNeg (eInt 1))).sem, a.sem] appendF) ρ = _
  have e : (pre ++ [T.lst row])[pre.length]? = some (.lst row) := by simp
  have g : getO ρ (.p i [pre.length]) = some (.lst row) := by simp only [getO, h, T.at, T.items, e]
  have kl : kindSem isLst (eIx (eVar i) (eNeg (eInt 1))).sem ρ = .ok (.p i [pre.length]) ρ false := by
    unfold kindSem
    rw [ix_last h]
    simp only
    rw [g]
    rfl
  unfold exprS effSem
  have gs : getOs ρ [.p i [pre.length], .v t] = some [.lst row, t] := by
    unfold getOs
    rw [g]
    rfl
  rw [ev2 kl ha (by simp [O.deep, O.there]) rfl]
  simp only
  rw [gs]
  simp only
  rw [if_pos ⟨rfl, rfl⟩]
  simp only [appendF, if_pos hl, effFin, wb, h, T.put, T.items, e, T.remake]
  congr 3
  simp
end Pv
set_option Elab.async false
set_option linter.all false
set_option maxRecDepth 100000
set_option maxHeartbeats 400000
/-! k83: the draws. -/
namespace K83
open PySem L2 Pv
def okc (c : Nat) : Bool := decide (32 ≤ c) && decide (c ≤ 126)
def ds (a b c e : Int) (cs : List Int) : T := .lst [.int a, .int b, .int c, .int e, .lst (cs.map .int)]
def Dg (d : T) : Prop := ∃ a b c e cs, d = ds a b c e cs ∧ 0 ≤ a ∧ a < 2147483647 ∧ 0 ≤ b ∧ 0 ≤ c ∧ 0 ≤ e
theorem dg_imm {d : T} (h : Dg d) : d.imm = false := by obtain ⟨a, b, c, e, cs, rfl, _⟩ := h; rfl
abbrev r6 (d : T) (m : Int) (x3 x4 x5 x6 : Option T) : Rho := [some d, some (.int m), x3, x4, x5, x6]
/-- the second half: the digit, or the mixed number -/
def draw2 : List Sx := [sIf (bCmp .Gt (eIx (eVar 0) (eInt 1)) (eInt 0)) (blk [sSet (gN 4) (eBin .Mod (eIntT (eIx (eVar 0) (eInt 1))) (eVar 1)),
  sSetIx (eVar 0) (eInt 1) (eBin .FloorDiv (eIx (eVar 0) (eInt 1)) (eVar 1)),
  sRet (eVar 4)]) (blk []),
  sSetIx (eVar 0) (eInt 3) (eBin .Add (eIx (eVar 0) (eInt 3)) (eInt 1)),
  sSetIx (eVar 0) (eInt 0) (eBin .Mod (eIntT (eBin .Add (eBin .Add (eBin .Mult (eIx (eVar 0) (eInt 0)) (eInt 48271)) (eBin .Mult (eIx (eVar 0) (eInt 3)) (eInt 7919))) (eInt 11))) (eInt 2147483647)),
  sSet (gN 5) (eBin .Mod (eIntT (eBin .Add (eBin .Mult (eIx (eVar 0) (eInt 0)) (eIx (eVar 0) (eInt 0))) (eIx (eVar 0) (eInt 3)))) (eInt 2147483629)),
  sRet (eBin .Mod (eIntT (eBin .FloorDiv (eVar 5) (eInt 7))) (eVar 1))]
theorem mul_lit {i j : Int} (h : -(2 ^ 64) < j ∧ j < 2 ^ 64) : binT .Mult (.int i) (.int j) = some (.int (i * j)) := if_pos (.inr h)
theorem mul_small {i j : Int} (h : -(2 ^ 64) < i ∧ i < 2 ^ 64) : binT .Mult (.int i) (.int j) = some (.int (i * j)) := if_pos (.inl h)
theorem mod_pos {i j : Int} (h : 0 < j) : binT .Mod (.int i) (.int j) = some (.int (i % j)) := if_pos h
theorem div_ok {i j : Int} (h : 0 < j ∧ j < 1073741824) : binT .FloorDiv (.int i) (.int j) = some (.int (i / j)) := if_pos h
theorem int_id {a : Ex} {ρ ρ1 : Rho} {i : Int} {τ : Bool} (h : a.sem ρ = .ok (.v (.int i)) ρ1 τ) : (eIntT a).sem ρ = .ok (.v (.int i)) ρ1 τ := by
  show opSem [a.sem] (f1 intOfT) ρ = _
  unfold opSem
  rw [ev1 h rfl]
  rfl
theorem draw2_ok {a b c e : Int} {cs : List Int} {m : Int} (ha : 0 ≤ a) (ha2 : a < 2147483647) (hb : 0 ≤ b) (hc : 0 ≤ c) (he : 0 ≤ e) (hm : 2 ≤ m) (hm2 : m < 1073741824) (x3 x4 x5 x6 : Option T) :
    ∃ k d' y5 y6, (blk draw2).sem (r6 (ds a b c e cs) m x3 x4 x5 x6) = .ret (.int k) (r6 d' m x3 x4 y5 y6) ∧ Dg d' ∧ 0 ≤ k ∧ k < m := by
  have c1 : (bCmp .Gt (eIx (eVar 0) (eInt 1)) (eInt 0)).sem (r6 (ds a b c e cs) m x3 x4 x5 x6) = .ok (decide (0 < b)) (r6 (ds a b c e cs) m x3 x4 x5 x6) false := rfl
  by_cases hb0 : 0 < b
  · rw [decide_eq_true hb0] at c1
    refine ⟨b % m, ds a (b / m) c e cs, some (.int (b % m)), x6, ?_, ⟨a, b / m, c, e, cs, rfl, ha, ha2, Int.ediv_nonneg hb (by omega), hc, he⟩, Int.emod_nonneg _ (by omega), Int.emod_lt_of_pos _ (by omega)⟩
    refine b_ret ((i_t c1).trans ?_)
    refine (b_nx (s_set (e_bin (τ1 := false) (τ2 := false) (x := .int b) (y := .int m) (int_id (i := b) (τ := false) rfl) rfl rfl rfl rfl rfl (mod_pos (by omega))) rfl)).trans ?_
    refine (b_nx (s_setix (k := 1) (τ := false) (ts := [.int a, .int b, .int c, .int e, .lst (cs.map .int)]) (e_bin (τ1 := false) (τ2 := false) (x := .int b) (y := .int m) rfl rfl rfl rfl rfl rfl (div_ok ⟨by omega, hm2⟩)) rfl rfl)).trans ?_
    exact b_ret (s_ret rfl)
  · have hb1 : b = 0 := by omega
    subst hb1
    rw [decide_eq_false hb0] at c1
    generalize h1 : e + 1 = e1
    generalize h2 : (a * 48271 + e1 * 7919 + 11) % 2147483647 = a1
    generalize h3 : (a1 * a1 + e1) % 2147483629 = mx
    have pa : 0 ≤ a1 := by rw [← h2]; exact Int.emod_nonneg _ (by omega)
    have pa2 : a1 < 2147483647 := by rw [← h2]; exact Int.emod_lt_of_pos _ (by omega)
    refine ⟨mx / 7 % m, ds a1 0 c e1 cs, x5, some (.int mx), ?_, ⟨a1, 0, c, e1, cs, rfl, pa, pa2, by omega, hc, by omega⟩, Int.emod_nonneg _ (by omega), Int.emod_lt_of_pos _ (by omega)⟩
    refine (b_nx ((i_f c1).trans rfl)).trans ?_
    refine (b_nx (s_setix (t := .int e1) (k := 3) (τ := false) (ts := [.int a, .int 0, .int c, .int e, .lst (cs.map .int)]) (by rw [← h1]; rfl) rfl rfl)).trans ?_
    have q1 : (eBin .Mult (eIx (eVar 0) (eInt 0)) (eInt 48271)).sem (r6 (ds a 0 c e1 cs) m x3 x4 x5 x6) = .ok (.v (.int (a * 48271))) (r6 (ds a 0 c e1 cs) m x3 x4 x5 x6) false := e_bin (τ1 := false) (τ2 := false) (x := .int a) (y := .int 48271) rfl rfl rfl rfl rfl rfl (mul_lit (by decide))
    have q2 : (eBin .Mult (eIx (eVar 0) (eInt 3)) (eInt 7919)).sem (r6 (ds a 0 c e1 cs) m x3 x4 x5 x6) = .ok (.v (.int (e1 * 7919))) (r6 (ds a 0 c e1 cs) m x3 x4 x5 x6) false := e_bin (τ1 := false) (τ2 := false) (x := .int e1) (y := .int 7919) rfl rfl rfl rfl rfl rfl (mul_lit (by decide))
    have q3 := e_bin (op := .Add) (z := .int (a * 48271 + e1 * 7919)) q1 q2 rfl rfl rfl rfl rfl
    have q4 := e_bin (op := .Add) (b := eInt 11) (z := .int (a * 48271 + e1 * 7919 + 11)) (τ2 := false) q3 rfl rfl rfl rfl rfl rfl
    have q5 := e_bin (op := .Mod) (b := eInt 2147483647) (τ2 := false) (y := .int 2147483647) (int_id q4) rfl rfl rfl rfl rfl (mod_pos (by omega))
    rw [h2] at q5
    refine (b_nx (s_setix (t := .int a1) (k := 0) (ts := [.int a, .int 0, .int c, .int e1, .lst (cs.map .int)]) q5 rfl rfl)).trans ?_
    have w1 : (eBin .Mult (eIx (eVar 0) (eInt 0)) (eIx (eVar 0) (eInt 0))).sem (r6 (ds a1 0 c e1 cs) m x3 x4 x5 x6) = .ok (.v (.int (a1 * a1))) (r6 (ds a1 0 c e1 cs) m x3 x4 x5 x6) false := e_bin (τ1 := false) (τ2 := false) (x := .int a1) (y := .int a1) rfl rfl rfl rfl rfl rfl (mul_small (by omega))
    have w2 := e_bin (op := .Add) (b := eIx (eVar 0) (eInt 3)) (y := .int e1) (z := .int (a1 * a1 + e1)) (τ2 := false) w1 rfl rfl rfl rfl rfl rfl
    have w3 := e_bin (op := .Mod) (b := eInt 2147483629) (τ2 := false) (y := .int 2147483629) (int_id w2) rfl rfl rfl rfl rfl (mod_pos (by omega))
    rw [h3] at w3
    refine (b_nx (s_set w3 rfl)).trans ?_
    have v1 : (eBin .FloorDiv (eVar 5) (eInt 7)).sem (r6 (ds a1 0 c e1 cs) m x3 x4 x5 (some (.int mx))) = .ok (.v (.int (mx / 7))) (r6 (ds a1 0 c e1 cs) m x3 x4 x5 (some (.int mx))) false := rfl
    exact b_ret (s_ret (e_bin (op := .Mod) (b := eVar 1) (τ2 := false) (y := .int m) (int_id v1) rfl rfl rfl rfl rfl (mod_pos (by omega))))
theorem ixN_in {n : Nat} {i : Int} (h0 : 0 ≤ i) (h : i < (n : Int)) : ixN n i = some i.toNat := by
  unfold ixN
  rw [if_pos h0, if_pos h]
theorem draw_ok {d : T} (hd : Dg d) {m : Int} (hm2 : m < 1073741824) : ∃ k d', φ_law_draw [d, .int m] = .ok (.int k) [some d', some (.int m)] ∧ Dg d' ∧ 0 ≤ k ∧ (m < 2 → k = 0) ∧ (2 ≤ m → k < m) := by
  obtain ⟨a, b, c, e, cs, rfl, ha, ha2, hb, hc, he⟩ := hd
  have c0 : (bCmp .Lt (eVar 1) (eInt 2)).sem (r6 (ds a b c e cs) m none none none none) = .ok (decide (m < 2)) (r6 (ds a b c e cs) m none none none none) false := rfl
  by_cases hm : m < 2
  · rw [decide_eq_true hm] at c0
    exact ⟨0, _, fn_ret rfl (b_ret ((i_t c0).trans (b_ret (s_ret rfl)))) rfl rfl, ⟨a, b, c, e, cs, rfl, ha, ha2, hb, hc, he⟩, by omega, fun _ => rfl, fun h => by omega⟩
  rw [decide_eq_false hm] at c0
  have fin : ∀ {d1 : T} {x3 x4 : Option T}, Dg d1 → (sIf (bAnd [(bCmp .Eq (eIx (eVar 0) (eInt 1)) (eInt 0)), (bCmp .Lt (eIx (eVar 0) (eInt 2)) (eLen (eIx (eVar 0) (eInt 4))))]) (blk [sSet (gN 2) (eIx (eIx (eVar 0) (eInt 4)) (eIx (eVar 0) (eInt 2))),
      sSetIx (eVar 0) (eInt 2) (eBin .Add (eIx (eVar 0) (eInt 2)) (eInt 1)),
      sSet (gN 3) (eIf (bCmp .GtE (eVar 2) (eInt 0)) (eVar 2) (eNeg (eVar 2))),
      sIf (bCmp .GtE (eVar 3) (eBin .Pow (eInt 10) (eInt 18))) (blk [sSetIx (eVar 0) (eInt 1) (eVar 3)]) (blk [sSetIx (eVar 0) (eInt 0) (eBin .Mod (eIntT (eBin .Add (eBin .Add (eBin .Mult (eIx (eVar 0) (eInt 0)) (eInt 69621)) (eBin .Mult (eVar 3) (eInt 48271))) (eInt 12345))) (eInt 2147483647))])]) (blk [])).sem (r6 (ds a b c e cs) m none none none none) = .nx (r6 d1 m x3 x4 none none) →
      ∃ k d', φ_law_draw [ds a b c e cs, .int m] = .ok (.int k) [some d', some (.int m)] ∧ Dg d' ∧ 0 ≤ k ∧ (m < 2 → k = 0) ∧ (2 ≤ m → k < m) := fun {d1 x3 x4} h1 h => by
    obtain ⟨a', b', c', e', cs', rfl, g1, g2, g3, g4, g5⟩ := h1
    obtain ⟨k, d', y5, y6, q1, q2, q3, q4⟩ := draw2_ok (cs := cs') g1 g2 g3 g4 g5 (by omega) hm2 x3 x4 none none
    exact ⟨k, d', fn_ret rfl ((b_nx ((i_f c0).trans rfl)).trans ((b_nx h).trans q1)) rfl rfl, q2, q3, fun h => absurd h hm, fun _ => q4⟩
  have k1 : (bCmp .Eq (eIx (eVar 0) (eInt 1)) (eInt 0)).sem (r6 (ds a b c e cs) m none none none none) = .ok (b == 0) (r6 (ds a b c e cs) m none none none none) false := rfl
  have k2 : (bCmp .Lt (eIx (eVar 0) (eInt 2)) (eLen (eIx (eVar 0) (eInt 4)))).sem (r6 (ds a b c e cs) m none none none none) = .ok (decide (c < ((cs.map T.int).length : Int))) (r6 (ds a b c e cs) m none none none none) false := rfl
  have dg0 : Dg (ds a b c e cs) := ⟨a, b, c, e, cs, rfl, ha, ha2, hb, hc, he⟩
  by_cases hb0 : b = 0
  case neg =>
    rw [show (b == 0) = false by simpa using hb0] at k1
    exact fin dg0 ((i_f (and_f k1)).trans rfl)
  subst hb0
  rw [show ((0 : Int) == 0) = true from rfl] at k1
  by_cases hc0 : c < ((cs.map T.int).length : Int)
  case neg =>
    rw [decide_eq_false hc0] at k2
    exact fin dg0 ((i_f (and_t k1 (and_1.trans k2))).trans rfl)
  rw [decide_eq_true hc0] at k2
  have hl : c.toNat < cs.length := by rw [List.length_map] at hc0; omega
  generalize hx : cs[c.toNat] = x
  have hg : (cs.map T.int)[c.toNat]? = some (.int x) := by rw [List.getElem?_map, List.getElem?_eq_getElem hl, hx]; rfl
  generalize hn : (if 0 ≤ x then x else -x) = n
  have hn0 : 0 ≤ n := by rw [← hn]; split <;> omega
  have s1 : (sSet (gN 2) (eIx (eIx (eVar 0) (eInt 4)) (eIx (eVar 0) (eInt 2)))).sem (r6 (ds a 0 c e cs) m none none none none) = .nx (r6 (ds a 0 c e cs) m (some (.int x)) none none none) := by
    refine s_set (ρ1 := r6 (ds a 0 c e cs) m none none none none) (τ := false) (t := .int x) (e_ix (τ1 := false) (τ2 := false) (o1 := .p 0 [4]) (o2 := .v (.int c)) (x := .lst (cs.map .int)) (y := .int c) rfl rfl rfl rfl rfl rfl ?_) rfl
    simp only [ixO, ixN_in hc hc0, hg]
    rfl
  have s2 : (sSetIx (eVar 0) (eInt 2) (eBin .Add (eIx (eVar 0) (eInt 2)) (eInt 1))).sem (r6 (ds a 0 c e cs) m (some (.int x)) none none none) = .nx (r6 (ds a 0 (c + 1) e cs) m (some (.int x)) none none none) :=
    s_setix (ρ1 := r6 (ds a 0 c e cs) m (some (.int x)) none none none) (t := .int (c + 1)) (k := 2) (τ := false) (ts := [.int a, .int 0, .int c, .int e, .lst (cs.map .int)]) rfl rfl rfl
  have s3 : (sSet (gN 3) (eIf (bCmp .GtE (eVar 2) (eInt 0)) (eVar 2) (eNeg (eVar 2)))).sem (r6 (ds a 0 (c + 1) e cs) m (some (.int x)) none none none) = .nx (r6 (ds a 0 (c + 1) e cs) m (some (.int x)) (some (.int n)) none none) := by
    refine s_set (ρ1 := r6 (ds a 0 (c + 1) e cs) m (some (.int x)) none none none) (τ := false) (t := .int n) (e_if (ρ1 := r6 (ds a 0 (c + 1) e cs) m (some (.int x)) none none none) (k := decide (0 ≤ x)) (τ := false) (τ2 := false) rfl ?_) rfl
    by_cases h : 0 ≤ x
    · rw [if_pos h] at hn; subst hn
      rw [if_pos (decide_eq_true h)]; rfl
    · rw [if_neg h] at hn; subst hn
      rw [if_neg (by simpa using h)]; rfl
  have c4 : (bCmp .GtE (eVar 3) (eBin .Pow (eInt 10) (eInt 18))).sem (r6 (ds a 0 (c + 1) e cs) m (some (.int x)) (some (.int n)) none none) = .ok (decide (10 ^ 18 ≤ n)) (r6 (ds a 0 (c + 1) e cs) m (some (.int x)) (some (.int n)) none none) false := rfl
  by_cases h18 : (10 : Int) ^ 18 ≤ n
  · rw [decide_eq_true h18] at c4
    refine fin (d1 := ds a n (c + 1) e cs) (x3 := some (.int x)) (x4 := some (.int n)) ⟨a, n, c + 1, e, cs, rfl, ha, ha2, hn0, by omega, he⟩ ((i_t (and_t k1 (and_1.trans k2))).trans ?_)
    refine (b_nx s1).trans ((b_nx s2).trans ((b_nx s3).trans ((b_nx ((i_t c4).trans ?_)).trans b_nil)))
    exact (b_nx (s_setix (t := .int n) (k := 1) (τ := false) (ts := [.int a, .int 0, .int (c + 1), .int e, .lst (cs.map .int)]) rfl rfl rfl)).trans b_nil
  · rw [decide_eq_false h18] at c4
    generalize h2 : (a * 69621 + n * 48271 + 12345) % 2147483647 = a1
    have pa : 0 ≤ a1 := by rw [← h2]; exact Int.emod_nonneg _ (by omega)
    have pa2 : a1 < 2147483647 := by rw [← h2]; exact Int.emod_lt_of_pos _ (by omega)
    refine fin (d1 := ds a1 0 (c + 1) e cs) (x3 := some (.int x)) (x4 := some (.int n)) ⟨a1, 0, c + 1, e, cs, rfl, pa, pa2, by omega, by omega, he⟩ ((i_t (and_t k1 (and_1.trans k2))).trans ?_)
    refine (b_nx s1).trans ((b_nx s2).trans ((b_nx s3).trans ((b_nx ((i_f c4).trans ?_)).trans b_nil)))
    have q1 : (eBin .Mult (eIx (eVar 0) (eInt 0)) (eInt 69621)).sem (r6 (ds a 0 (c + 1) e cs) m (some (.int x)) (some (.int n)) none none) = .ok (.v (.int (a * 69621))) (r6 (ds a 0 (c + 1) e cs) m (some (.int x)) (some (.int n)) none none) false := e_bin (τ1 := false) (τ2 := false) (x := .int a) (y := .int 69621) rfl rfl rfl rfl rfl rfl (mul_lit (by decide))
    have q2 : (eBin .Mult (eVar 3) (eInt 48271)).sem (r6 (ds a 0 (c + 1) e cs) m (some (.int x)) (some (.int n)) none none) = .ok (.v (.int (n * 48271))) (r6 (ds a 0 (c + 1) e cs) m (some (.int x)) (some (.int n)) none none) false := e_bin (τ1 := false) (τ2 := false) (x := .int n) (y := .int 48271) rfl rfl rfl rfl rfl rfl (mul_lit (by decide))
    have q3 := e_bin (op := .Add) (z := .int (a * 69621 + n * 48271)) q1 q2 rfl rfl rfl rfl rfl
    have q4 := e_bin (op := .Add) (b := eInt 12345) (z := .int (a * 69621 + n * 48271 + 12345)) (τ2 := false) q3 rfl rfl rfl rfl rfl rfl
    have q5 := e_bin (op := .Mod) (b := eInt 2147483647) (τ2 := false) (y := .int 2147483647) (int_id q4) rfl rfl rfl rfl rfl (mod_pos (by omega))
    rw [h2] at q5
    exact (b_nx (s_setix (t := .int a1) (k := 0) (ts := [.int a, .int 0, .int (c + 1), .int e, .lst (cs.map .int)]) q5 rfl rfl)).trans b_nil
end K83
set_option Elab.async false
set_option linter.all false
set_option maxRecDepth 100000
set_option maxHeartbeats 400000
/-! k83: picks, leaves, values. -/
namespace K83
open PySem L2 Pv
theorem imms_get : ∀ {ts : List T} {k : Nat} {t : T}, T.imms ts = true → ts[k]? = some t → t.imm = true
  | [], k, t, _, h => by simp at h
  | a :: ts, 0, t, h, e => by
    simp only [T.imms, Bool.and_eq_true] at h
    simp only [List.getElem?_cons_zero, Option.some.injEq] at e
    rw [← e]; exact h.1
  | a :: ts, k + 1, t, h, e => by
    simp only [T.imms, Bool.and_eq_true] at h
    exact imms_get h.2 (by simpa using e)
theorem pick_ok {d : T} (hd : Dg d) {row : List T} (him : T.imms row = true) (hne : 0 < row.length) (hl : row.length < 1073741824) : ∃ x d', x ∈ row ∧ φ_law_pick [d, .lst row] = .ok x [some d', some (.lst row)] ∧ Dg d' := by
  obtain ⟨k, d', q1, q2, q3, q4, q5⟩ := draw_ok hd (m := (row.length : Int)) (by omega)
  obtain ⟨a, b, c, e, cs, rfl, _⟩ := id hd
  have hk : k < (row.length : Int) := by
    by_cases h : (row.length : Int) < 2
    · rw [q4 h]; omega
    · exact q5 (by omega)
  have hk' : k.toNat < row.length := by omega
  have hx : row[k.toNat]? = some row[k.toNat] := List.getElem?_eq_getElem hk'
  have im := imms_get him hx
  have cl : (eCall F_law_draw (xs [(eVar 0), (eLen (eVar 1))])).sem [some (ds a b c e cs), some (.lst row)] = .ok (.v (.int k)) [some d', some (.lst row)] true :=
    e_call (ρ1 := [some (ds a b c e cs), some (.lst row)]) (τ := false) (os := [.p 0 [], .v (.int row.length)]) (ts := [ds a b c e cs, .int row.length]) rfl rfl rfl rfl q1 rfl
  refine ⟨row[k.toNat], d', List.getElem_mem hk', fn_ret rfl (b_ret (s_ret (e_ix (τ1 := false) (τ2 := true) (o1 := .p 1 []) (o2 := .v (.int k)) (ρ1 := [some (ds a b c e cs), some (.lst row)]) (x := .lst row) (y := .int k) rfl cl rfl rfl rfl rfl ?_))) ?_ rfl, q2⟩
  · simp only [ixO, ixN_in q3 hk, hx, itemO, im, if_true]
  · rfl
def plainS (t : T) : Bool := match t with
  | .str s => s.cps.toList.all (fun c => okc c && c != 34) && decide (s.length ≤ 10)
  | _ => false
theorem imms_plain : ∀ {ts : List T}, ts.all plainS = true → T.imms ts = true
  | [], _ => rfl
  | t :: ts, h => by
    simp only [List.all_cons, Bool.and_eq_true] at h
    simp only [T.imms, Bool.and_eq_true]
    refine ⟨?_, imms_plain h.2⟩
    cases t <;> first | rfl | (simp [plainS] at h)
theorem pool_ok : ∃ row, φ_law_pool [] = .ok (.lst row) [] ∧ row.length = 50 ∧ row.all plainS = true := by
  refine ⟨_, fn_ret rfl (b_ret (s_ret rfl)) rfl rfl, rfl, ?_⟩
  decide +kernel

/-! ### the writer, the range -/
def BIG : Nat := 10 ^ 2500
def okStr (s : Str) : Bool := s.cps.toList.all (fun c => okc c && c != 34) && decide (s.length ≤ 6400)
section
mutual
def Ok : Nat → T → Prop
  | _, .non => True
  | _, .int i => i.natAbs < BIG
  | _, .str s => okStr s = true
  | 0, .tup _ => False
  | k + 1, .tup ts => Oks k ts
  | _, _ => False
def Oks : Nat → List T → Prop
  | _, [] => True
  | k, t :: ts => Ok k t ∧ Oks k ts
end
def wInt (i : Int) : List Nat := (Str.ofString (toString i)).cps.toList
mutual
def W : T → List Nat
  | .non => [45]
  | .str s => 34 :: (s.cps.toList ++ [34])
  | .int i => wInt i
  | .tup ts => 40 :: (Ws ts ++ [41])
  | _ => []
def Ws : List T → List Nat
  | [] => []
  | t :: ts => W t ++ Wr ts
def Wr : List T → List Nat
  | [] => []
  | t :: ts => 32 :: (W t ++ Wr ts)
end
mutual
def nd : T → Nat
  | .tup ts => nds ts + 1
  | _ => 1
def nds : List T → Nat
  | [] => 0
  | t :: ts => nd t + nds ts
end
end
end K83
set_option Elab.async false
set_option linter.all false
set_option maxRecDepth 100000
set_option maxHeartbeats 400000
/-! k83: numbers as signs. -/
namespace K83
open PySem L2 Pv
def dg (m : Nat) : List Nat := (Nat.toDigits 10 m).map Char.toNat
theorem dg_one {m : Nat} (h : m < 10) : dg m = [48 + m] := by
  unfold dg
  rw [Nat.toDigits_of_lt_base h]
  have : ∀ d : Nat, d < 10 → (Nat.digitChar d).toNat = 48 + d := by decide
  simp [this m h]
theorem dg_more {m : Nat} (h : ¬ m < 10) : dg m = dg (m / 10) ++ [48 + m % 10] := by
  have hm : m % 10 < 10 := Nat.mod_lt m (by decide)
  have t : Nat.toDigits 10 (m / 10) ++ Nat.toDigits 10 (m % 10) = Nat.toDigits 10 (10 * (m / 10) + m % 10) := Nat.toDigits_append_toDigits (by decide) (by omega) hm
  rw [Nat.div_add_mod] at t
  have e := dg_one hm
  unfold dg at e ⊢
  rw [← t, List.map_append, e]
theorem dg_all : ∀ (m : Nat), ∀ c ∈ dg m, 48 ≤ c ∧ c ≤ 57 := by
  intro m
  induction m using Nat.strongRecOn with
  | _ m ih =>
    intro c hc
    by_cases h : m < 10
    · rw [dg_one h] at hc
      have : c = 48 + m := by simpa using hc
      omega
    · rw [dg_more h] at hc
      rcases List.mem_append.mp hc with hc | hc
      · exact ih (m / 10) (by omega) c hc
      · have : c = 48 + m % 10 := by simpa using hc
        omega
theorem dg_head : ∀ (m : Nat), 0 < m → ∃ c r, dg m = c :: r ∧ 49 ≤ c ∧ c ≤ 57 := by
  intro m
  induction m using Nat.strongRecOn with
  | _ m ih =>
    intro h0
    by_cases h : m < 10
    · exact ⟨48 + m, [], dg_one h, by omega, by omega⟩
    · obtain ⟨c, r, e, h1, h2⟩ := ih (m / 10) (by omega) (by omega)
      exact ⟨c, r ++ [48 + m % 10], by rw [dg_more h, e]; rfl, h1, h2⟩
theorem dg_len : ∀ (k m : Nat), m < 10 ^ (k + 1) → (dg m).length ≤ k + 1
  | 0, m, h => by rw [dg_one (by simpa using h)]; simp
  | k + 1, m, h => by
    by_cases h1 : m < 10
    · rw [dg_one h1]; simp
    · rw [dg_more h1, List.length_append]
      have := dg_len k (m / 10) (by rw [Nat.div_lt_iff_lt_mul (by decide)]; rw [Nat.pow_succ] at h; exact h)
      simp
      omega
theorem wInt_nat (m : Nat) : wInt ((m : Nat) : Int) = dg m := PySem.W.KIN.signs_num m
theorem wInt_neg {i : Int} (h : i < 0) : wInt i = 45 :: dg i.natAbs := by
  cases i with
  | ofNat m => exact absurd h (by simp)
  | negSucc m =>
    unfold wInt
    rw [PyProof.Rows.signs_ofString]
    show ("-" ++ Nat.repr (m + 1)).toList.map Char.toNat = _
    rw [String.toList_append, List.map_append, Nat.toList_repr]
    rfl
theorem wInt_cases (i : Int) : (0 ≤ i ∧ wInt i = dg i.natAbs) ∨ (i < 0 ∧ wInt i = 45 :: dg i.natAbs) := by
  by_cases h : 0 ≤ i
  · refine .inl ⟨h, ?_⟩
    have e : i = ((i.natAbs : Nat) : Int) := by omega
    rw [e, wInt_nat]
    simp
  · exact .inr ⟨by omega, wInt_neg (by omega)⟩
theorem wInt_len {i : Int} (h : i.natAbs < BIG) : (wInt i).length ≤ 2501 := by
  have := dg_len 2499 i.natAbs h
  rcases wInt_cases i with ⟨_, e⟩ | ⟨_, e⟩
  · rw [e]; omega
  · rw [e]; simp; omega
end K83
set_option Elab.async false
set_option linter.all false
set_option maxRecDepth 100000
set_option maxHeartbeats 400000
/-! k83: the automaton that reads what the writer writes. -/
namespace K83
open PySem L2 Pv
inductive Md where
  | E0 | E1 | M | D (n : Nat) | Z | A | S (n : Nat)
def clo : Nat → Option (Nat × Md)
  | 0 => none
  | k + 1 => some (k, .A)
def fin (d c : Nat) : Option (Nat × Md) := if c = 32 then (if d = 0 then none else some (d, .E1)) else if c = 41 then clo d else none
def beg (d c : Nat) : Option (Nat × Md) := if c = 40 then (if d < 60 then some (d + 1, .E0) else none) else if c = 34 then some (d, .S 0) else if c = 45 then some (d, .M) else if c = 48 then some (d, .Z) else if 49 ≤ c ∧ c ≤ 57 then some (d, .D 1) else none
def stp : Nat × Md → Nat → Option (Nat × Md)
  | (d, .E0), c => if c = 41 then clo d else beg d c
  | (d, .E1), c => beg d c
  | (d, .M), c => if 49 ≤ c ∧ c ≤ 57 then some (d, .D 1) else fin d c
  | (d, .D n), c => if 48 ≤ c ∧ c ≤ 57 then (if n < 2500 then some (d, .D (n + 1)) else none) else fin d c
  | (d, .Z), c => fin d c
  | (d, .A), c => fin d c
  | (d, .S n), c => if c = 34 then some (d, .A) else if okc c = true ∧ n < 6400 then some (d, .S (n + 1)) else none
def run : Nat × Md → List Nat → Option (Nat × Md)
  | s, [] => some s
  | s, c :: r => match stp s c with
    | some s' => run s' r
    | none => none
theorem run_app : ∀ (x y : List Nat) (s : Nat × Md), run s (x ++ y) = (run s x).bind fun s' => run s' y
  | [], y, s => rfl
  | c :: x, y, s => by
    simp only [List.cons_append, run]
    cases stp s c with
    | none => rfl
    | some s' => exact run_app x y s'
theorem run_to {x y : List Nat} {s s' : Nat × Md} (h : run s x = some s') : run s (x ++ y) = run s' y := by
  rw [run_app, h]; rfl
def Endm : Md → Bool
  | .M => true
  | .D _ => true
  | .Z => true
  | .A => true
  | _ => false
theorem end_sp {md : Md} (h : Endm md = true) (d : Nat) : stp (d + 1, md) 32 = some (d + 1, .E1) := by cases md <;> first | rfl | cases h
theorem end_cl {md : Md} (h : Endm md = true) (d : Nat) : stp (d + 1, md) 41 = some (d, .A) := by cases md <;> first | rfl | cases h
theorem run_dig : ∀ (l : List Nat) (d n : Nat), (∀ c ∈ l, 48 ≤ c ∧ c ≤ 57) → n + l.length ≤ 2500 → run (d, .D n) l = some (d, .D (n + l.length))
  | [], d, n, _, _ => rfl
  | c :: l, d, n, h, hl => by
    have hc := h c List.mem_cons_self
    simp only [List.length_cons] at hl ⊢
    simp only [run, stp]
    rw [if_pos hc, if_pos (by omega)]
    simp only
    rw [run_dig l d (n + 1) (fun x hx => h x (List.mem_cons_of_mem _ hx)) (by omega)]
    congr 3; omega
theorem run_str : ∀ (l : List Nat) (d n : Nat), (∀ c ∈ l, okc c = true ∧ c ≠ 34) → n + l.length ≤ 6400 → run (d, .S n) l = some (d, .S (n + l.length))
  | [], d, n, _, _ => rfl
  | c :: l, d, n, h, hl => by
    have hc := h c List.mem_cons_self
    simp only [List.length_cons] at hl ⊢
    simp only [run, stp]
    rw [if_neg hc.2, if_pos ⟨hc.1, by omega⟩]
    simp only
    rw [run_str l d (n + 1) (fun x hx => h x (List.mem_cons_of_mem _ hx)) (by omega)]
    congr 3; omega
theorem beg_dig {d c : Nat} (h : 49 ≤ c ∧ c ≤ 57) : beg d c = some (d, .D 1) := by
  unfold beg
  rw [if_neg (by omega), if_neg (by omega), if_neg (by omega), if_neg (by omega), if_pos h]
theorem beg_45 (d : Nat) : beg d 45 = some (d, .M) := rfl
theorem beg_34 (d : Nat) : beg d 34 = some (d, .S 0) := rfl
theorem beg_40 {d : Nat} (h : d < 60) : beg d 40 = some (d + 1, .E0) := if_pos h
def Beg (md : Md) : Prop := md = .E0 ∨ md = .E1
theorem stp_beg {md : Md} (h : Beg md) {d c : Nat} (hc : c ≠ 41) : stp (d, md) c = beg d c := by
  rcases h with rfl | rfl
  · simp only [stp]; rw [if_neg hc]
  · rfl
theorem run_int {i : Int} (h : i.natAbs < BIG) {md : Md} (hm : Beg md) (d : Nat) : ∃ md', run (d, md) (wInt i) = some (d, md') ∧ Endm md' = true := by
  have hl := dg_len 2499 i.natAbs h
  rcases wInt_cases i with ⟨h0, e⟩ | ⟨h0, e⟩
  · rw [e]
    by_cases hz : i.natAbs = 0
    · rw [hz, dg_one (by decide)]
      refine ⟨.Z, ?_, rfl⟩
      simp only [run]
      rw [stp_beg hm (by decide)]
      rfl
    · obtain ⟨c, r, e2, h1, h2⟩ := dg_head i.natAbs (by omega)
      have ha := dg_all i.natAbs
      rw [e2] at hl ha ⊢
      simp only [List.length_cons] at hl
      refine ⟨.D (1 + r.length), ?_, rfl⟩
      simp only [run]
      rw [stp_beg hm (by omega), beg_dig ⟨h1, h2⟩]
      exact run_dig r d 1 (fun x hx => ha x (List.mem_cons_of_mem _ hx)) (by omega)
  · rw [e]
    obtain ⟨c, r, e2, h1, h2⟩ := dg_head i.natAbs (by omega)
    have ha := dg_all i.natAbs
    rw [e2] at hl ha ⊢
    simp only [List.length_cons] at hl
    refine ⟨.D (1 + r.length), ?_, rfl⟩
    simp only [run]
    rw [stp_beg hm (by decide), beg_45]
    simp only [stp]
    rw [if_pos ⟨h1, h2⟩]
    exact run_dig r d 1 (fun x hx => ha x (List.mem_cons_of_mem _ hx)) (by omega)
theorem okStr_all {s : Str} (h : okStr s = true) : (∀ c ∈ s.cps.toList, okc c = true ∧ c ≠ 34) ∧ s.cps.toList.length ≤ 6400 := by
  unfold okStr at h
  simp only [Bool.and_eq_true, List.all_eq_true, decide_eq_true_eq, bne_iff_ne, ne_eq] at h
  exact ⟨h.1, by have : s.cps.toList.length = s.length := Array.length_toList; omega⟩
mutual
theorem run_W : ∀ (t : T) (k d : Nat) (md : Md), Ok k t → d + k ≤ 60 → Beg md → ∃ md', run (d, md) (W t) = some (d, md') ∧ Endm md' = true
  | .non, k, d, md, _, _, hm => ⟨.M, by simp only [W, run]; rw [stp_beg hm (by decide)]; rfl, rfl⟩
  | .int i, k, d, md, h, _, hm => by
    simp only [W]
    exact run_int (by simpa only [Ok] using h) hm d
  | .str s, k, d, md, h, _, hm => by
    obtain ⟨h1, h2⟩ := okStr_all (s := s) (by simpa only [Ok] using h)
    refine ⟨.A, ?_, rfl⟩
    simp only [W, run]
    rw [stp_beg hm (by decide), beg_34]
    simp only
    rw [run_to (run_str _ d 0 h1 (by omega))]
    rfl
  | .tup ts, 0, d, md, h, _, _ => by simp only [Ok] at h
  | .tup ts, k + 1, d, md, h, hk, hm => by
    simp only [Ok] at h
    refine ⟨.A, ?_, rfl⟩
    simp only [W, run]
    rw [stp_beg hm (by decide), beg_40 (by omega)]
    simp only
    obtain ⟨md', e, c⟩ := run_Ws ts k d h (by omega)
    rw [run_to e]
    simp only [run]
    rw [c]
  | .bl _, k, d, md, h, _, _ => by cases k <;> simp only [Ok] at h
  | .lst _, k, d, md, h, _, _ => by cases k <;> simp only [Ok] at h
  | .fro _, k, d, md, h, _, _ => by cases k <;> simp only [Ok] at h
theorem run_Ws : ∀ (ts : List T) (k d : Nat), Oks k ts → d + 1 + k ≤ 60 → ∃ md', run (d + 1, .E0) (Ws ts) = some (d + 1, md') ∧ stp (d + 1, md') 41 = some (d, .A)
  | [], k, d, _, _ => ⟨.E0, rfl, rfl⟩
  | t :: ts, k, d, h, hk => by
    simp only [Oks] at h
    obtain ⟨m1, e1, c1⟩ := run_W t k (d + 1) .E0 h.1 hk (.inl rfl)
    obtain ⟨m2, e2, c2⟩ := run_Wr ts k d m1 h.2 hk c1
    refine ⟨m2, ?_, end_cl c2 d⟩
    simp only [Ws]
    rw [run_to e1, e2]
theorem run_Wr : ∀ (ts : List T) (k d : Nat) (md : Md), Oks k ts → d + 1 + k ≤ 60 → Endm md = true → ∃ md', run (d + 1, md) (Wr ts) = some (d + 1, md') ∧ Endm md' = true
  | [], k, d, md, _, _, c => ⟨md, rfl, c⟩
  | t :: ts, k, d, md, h, hk, c => by
    simp only [Oks] at h
    obtain ⟨m1, e1, c1⟩ := run_W t k (d + 1) .E1 h.1 hk (.inr rfl)
    obtain ⟨m2, e2, c2⟩ := run_Wr ts k d m1 h.2 hk c1
    refine ⟨m2, ?_, c2⟩
    simp only [Wr, run]
    rw [end_sp c d]
    simp only
    rw [run_to e1, e2]
end
def acc (l : List Nat) : Bool := match run (0, .E1) l with
  | some (0, md) => Endm md
  | _ => false
theorem acc_W {t : T} (h : Ok 60 t) : acc (W t) = true := by
  obtain ⟨m, e, c⟩ := run_W t 60 0 .E1 h (by omega) (.inr rfl)
  unfold acc
  rw [e]
  exact c
end K83
set_option Elab.async false
set_option linter.all false
set_option maxRecDepth 100000
set_option maxHeartbeats 400000
/-! k83: what is not in the language. -/
namespace K83
open PySem L2 Pv
theorem run_none {x y : List Nat} {s : Nat × Md} (h : run s x = none) : run s (x ++ y) = none := by rw [run_app, h]; rfl
theorem no_end {t : T} {k : Nat} (h : Ok k t) (hk : k ≤ 60) (c : Nat) (hc : c = 32 ∨ c = 41) (y : List Nat) : acc (W t ++ c :: y) = false := by
  obtain ⟨m, e, cm⟩ := run_W t k 0 .E1 h (by omega) (.inr rfl)
  unfold acc
  rw [run_to e]
  have : stp (0, m) c = none := by rcases hc with rfl | rfl <;> (cases m <;> first | rfl | cases cm)
  simp only [run, this]
theorem no_front (y : List Nat) : acc (32 :: y) = false := rfl
theorem no_open {t : T} {k : Nat} (h : Ok k t) (hk : 1 + k ≤ 60) (suf : List Nat) (hs : ∀ md, Endm md = true → (match run (1, md) suf with | some (0, m) => Endm m | _ => false) = false) : acc (40 :: (W t ++ suf)) = false := by
  obtain ⟨m, e, cm⟩ := run_W t k 1 .E0 h hk (.inl rfl)
  unfold acc
  have e1 : run (0, .E1) (40 :: (W t ++ suf)) = run (1, .E0) (W t ++ suf) := rfl
  rw [e1, run_to e]
  exact hs m cm
/-- the suffixes of the wrong texts -/
def badS : List (List Nat) := [[], [32, 32, 49, 41], [32, 48, 49, 41], [32, 45, 48, 41], [32, 49, 45, 41], [32, 45, 45, 41], [32, 97, 41], [32, 43, 49, 41], [32, 49, 95, 48, 41], [32, 40, 41, 41, 40], [32, 34, 97, 41], [34, 34, 41], [10, 41], [32, 34, 9, 34, 41], [32, 49, 32, 41], [40, 32, 41]]
theorem no_suf {t : T} {k : Nat} (h : Ok k t) (hk : 1 + k ≤ 60) {suf : List Nat} (hs : suf ∈ badS) : acc (40 :: (W t ++ suf)) = false := by
  refine no_open h hk suf fun md hm => ?_
  simp only [badS, List.mem_cons, List.not_mem_nil, or_false] at hs
  rcases hs with rfl | rfl | rfl | rfl | rfl | rfl | rfl | rfl | rfl | rfl | rfl | rfl | rfl | rfl | rfl | rfl <;> (cases md <;> first | rfl | cases hm)
theorem no_nil : acc [] = false := rfl
theorem run_q (x : List Nat) : run (0, .E1) (34 :: x) = run (0, .S 0) x := rfl
theorem run_1 (x : List Nat) : run (0, .E1) (49 :: x) = run (0, .D 1) x := rfl
/-- 61 brackets are one too many -/
theorem run_deep : ∀ (n d : Nat) (y : List Nat), d ≤ 60 → 60 < d + n → run (d, .E0) (List.replicate n 40 ++ y) = none
  | 0, d, y, h, h2 => by omega
  | n + 1, d, y, h, h2 => by
    simp only [List.replicate_succ, List.cons_append, run, stp]
    rw [if_neg (by decide)]
    by_cases c : d < 60
    · rw [beg_40 c]
      exact run_deep n (d + 1) y (by omega) (by omega)
    · have : beg d 40 = none := if_neg c
      rw [this]
theorem no_deep (y : List Nat) : acc (List.replicate 61 40 ++ y) = false := by
  unfold acc
  have : run (0, .E1) (List.replicate 61 40 ++ y) = run (1, .E0) (List.replicate 60 40 ++ y) := rfl
  rw [this, run_deep 60 1 y (by omega) (by omega)]
theorem run_long : ∀ (n m d : Nat) (y : List Nat), m ≤ 6400 → 6400 < m + n → run (d, .S m) (List.replicate n 122 ++ y) = none
  | 0, m, d, y, h, h2 => by omega
  | n + 1, m, d, y, h, h2 => by
    simp only [List.replicate_succ, List.cons_append, run, stp]
    rw [if_neg (by decide)]
    by_cases c : m < 6400
    · rw [if_pos ⟨rfl, c⟩]
      exact run_long n (m + 1) d y (by omega) (by omega)
    · rw [if_neg (fun z => c z.2)]
theorem no_long (y : List Nat) : acc (34 :: (List.replicate 6401 122 ++ y)) = false := by
  unfold acc
  rw [run_q, run_long 6401 0 0 y (by omega) (by omega)]
theorem run_many : ∀ (n m d : Nat) (y : List Nat), m ≤ 2500 → 2500 < m + n → run (d, .D m) (List.replicate n 48 ++ y) = none
  | 0, m, d, y, h, h2 => by omega
  | n + 1, m, d, y, h, h2 => by
    simp only [List.replicate_succ, List.cons_append, run, stp]
    rw [if_pos (by decide)]
    by_cases c : m < 2500
    · rw [if_pos c]
      exact run_many n (m + 1) d y (by omega) (by omega)
    · rw [if_neg c]
theorem no_many (y : List Nat) : acc (49 :: (List.replicate 2500 48 ++ y)) = false := by
  unfold acc
  rw [run_1, run_many 2500 1 0 y (by omega) (by omega)]
end K83
set_option Elab.async false
set_option linter.all false
set_option maxRecDepth 100000
set_option maxHeartbeats 400000
/-! k83: the small defs. -/
namespace K83
open PySem L2 Pv
theorem lt_one (c d : Nat) : ([d] < [c]) ↔ d < c := by
  constructor
  · intro h
    cases h with
    | rel h => exact h
    | cons h => cases h
  · exact fun h => List.Lex.rel h
theorem le_one (c d : Nat) : (!decide ([d] < [c])) = decide (c ≤ d) := by
  by_cases h : c ≤ d
  · rw [decide_eq_true h, decide_eq_false (fun z => by have := (lt_one c d).mp z; omega)]
    rfl
  · rw [decide_eq_false h, decide_eq_true ((lt_one c d).mpr (by omega))]
    rfl
theorem plain_loop (s : Str) : ∀ (l : List Nat) (x : Option T), ∃ x', forF (gN 1).sem (blk [sIf (bNot (bChain .LtE .LtE (eStr " ") (eVar 1) (eStr "~"))) (blk [sRet (eBl false)]) (blk [])]).sem (l.map fun c => T.str ⟨#[c]⟩) [some (.str s), x] = if l.all okc = true then .nx [some (.str s), x'] else .ret (.bl false) [some (.str s), x']
  | [], x => ⟨x, rfl⟩
  | c :: l, x => by
    have k1 : cmpT .LtE (.str " ") (.str ⟨#[c]⟩) = some (decide (32 ≤ c)) := by
      show some (!decide ([c] < [32])) = _
      rw [le_one]
    have k2 : cmpT .LtE (.str ⟨#[c]⟩) (.str "~") = some (decide (c ≤ 126)) := by
      show some (!decide ([126] < [c])) = _
      rw [le_one]
    have ch : (bChain .LtE .LtE (eStr " ") (eVar 1) (eStr "~")).sem [some (.str s), some (.str ⟨#[c]⟩)] = .ok (okc c) [some (.str s), some (.str ⟨#[c]⟩)] false := by
      by_cases h : 32 ≤ c
      · have e : okc c = decide (c ≤ 126) := by unfold okc; rw [decide_eq_true h]; rfl
        rw [e]
        exact chain_t (s := .str " ") (t := .str ⟨#[c]⟩) (u := .str "~") rfl rfl rfl rfl rfl (by rw [k1, decide_eq_true h]) k2
      · have e : okc c = false := by unfold okc; rw [decide_eq_false h]; rfl
        rw [e]
        exact chain_f (s := .str " ") (t := .str ⟨#[c]⟩) rfl rfl rfl (by rw [k1, decide_eq_false h])
    cases hc : okc c with
    | true =>
      rw [hc] at ch
      obtain ⟨x', e⟩ := plain_loop s l (some (.str ⟨#[c]⟩))
      refine ⟨x', ?_⟩
      rw [List.map_cons, f_nx (ρ1 := [some (.str s), some (.str ⟨#[c]⟩)]) (ρ2 := [some (.str s), some (.str ⟨#[c]⟩)]) rfl ((b_nx ((i_f (b_not ch)).trans rfl)).trans b_nil), e, List.all_cons, hc]
      rfl
    | false =>
      rw [hc] at ch
      refine ⟨some (.str ⟨#[c]⟩), ?_⟩
      rw [List.map_cons, f_ret (ρ1 := [some (.str s), some (.str ⟨#[c]⟩)]) rfl (b_ret ((i_t (b_not ch)).trans (b_ret (s_ret rfl)))), List.all_cons, hc]
      rfl
theorem is_plain_ok (s : Str) : φ_is_plain [.str s] = .ok (.bl (s.cps.toList.all okc)) [some (.str s)] := by
  obtain ⟨x', e⟩ := plain_loop s s.cps.toList none
  cases hc : s.cps.toList.all okc with
  | true =>
    rw [hc] at e
    exact fn_ret rfl ((b_nx ((s_for (items := signs s) (ρ1 := [some (.str s), none]) (τ := false) rfl).trans (e.trans (if_pos rfl)))).trans (b_ret (s_ret rfl))) rfl rfl
  | false =>
    rw [hc] at e
    exact fn_ret rfl (b_ret ((s_for (items := signs s) (ρ1 := [some (.str s), none]) (τ := false) rfl).trans (e.trans (if_neg Bool.false_ne_true)))) rfl rfl
end K83
set_option Elab.async false
set_option linter.all false
set_option maxRecDepth 100000
set_option maxHeartbeats 400000
/-! k83: word_end, number_in. -/
namespace K83
open PySem L2 Pv
/-- a sign of a number -/
def isw (c : Nat) : Bool := (decide (48 ≤ c) && decide (c ≤ 57)) || (c == 45)
def lowS (s : Str) : Prop := (∀ c ∈ s.cps.toList, c < 0x110000) ∧ s.length ≤ 400000
theorem low_line {s : Str} (h : lowS s) : s.length ≤ sizeLine := Nat.le_trans h.2 (by rw [sizeLine_eq]; decide)
theorem len_list (s : Str) : s.cps.toList.length = s.length := Array.length_toList
theorem at_of {s : Str} {p : Nat} (h : p < s.cps.toList.length) : atI s.cps.toList (p : Int) = some s.cps.toList[p] := by
  unfold atI
  rw [ixN_in (by omega) (by exact_mod_cast h)]
  simp
theorem in_digits (c : Nat) : cmpT .In (.str ⟨#[c]⟩) (.str "0123456789") = some (decide (48 ≤ c) && decide (c ≤ 57)) := by
  show some (decide (c ∈ [48, 49, 50, 51, 52, 53, 54, 55, 56, 57])) = _
  congr 1
  rw [← Bool.decide_and]
  refine decide_eq_decide.mpr ?_
  simp
  omega
theorem eq_one (c d : Nat) (hc : c < 0x110000) (hd : d < 0x110000) : cmpT .Eq (.str ⟨#[c]⟩) (.str ⟨#[d]⟩) = some (c == d) := by
  show eqT _ _ = _
  rw [eq_str (by simpa using hc) (by simpa using hd)]
  congr 1
  by_cases h : c = d
  · subst h; simp
  · rw [show (c == d) = false by simpa using h]
    have : (⟨#[c]⟩ : Str) ≠ ⟨#[d]⟩ := fun z => h (by simpa using congrArg (fun s => s.cps.toList) z)
    simpa using this
abbrev w3 (s : Str) (p at_ : Int) : Rho := [some (.str s), some (.int p), some (.int at_)]
theorem we_cond {s : Str} (h : lowS s) (p : Int) (k : Nat) (hk : k ≤ s.cps.toList.length) :
    (bAnd [(bCmp .Lt (eVar 2) (eLen (eVar 0))), (bOr [(bCmp .In (eIx (eVar 0) (eVar 2)) (eGlob "DIGITS" (.str "0123456789"))), (bCmp .Eq (eIx (eVar 0) (eVar 2)) (eStr "-"))])]).sem (w3 s p k) = .ok (match s.cps.toList[k]? with | some c => isw c | none => false) (w3 s p k) false := by
  have el : (eLen (eVar 0)).sem (w3 s p k) = .ok (.v (.int s.length)) (w3 s p k) false := e_len_s (o := .v (.str s)) rfl rfl rfl (low_line h)
  have c1 : (bCmp .Lt (eVar 2) (eLen (eVar 0))).sem (w3 s p k) = .ok (decide ((k : Int) < (s.length : Int))) (w3 s p k) false := b_cmp (τ1 := false) (o1 := .v (.int k)) (x := .int k) rfl el rfl rfl rfl rfl rfl
  by_cases hlt : k < s.cps.toList.length
  · rw [decide_eq_true (by rw [len_list] at hlt; omega)] at c1
    rw [List.getElem?_eq_getElem hlt]
    simp only
    generalize hc : s.cps.toList[k] = c
    have hlow : c < 0x110000 := h.1 c (by rw [← hc]; exact List.getElem_mem hlt)
    have ix : (eIx (eVar 0) (eVar 2)).sem (w3 s p k) = .ok (.v (.str ⟨#[c]⟩)) (w3 s p k) false := e_ix (τ1 := false) (τ2 := false) (o1 := .v (.str s)) (o2 := .v (.int k)) rfl rfl rfl rfl rfl rfl (ix_str (low_line h) (by rw [at_of hlt, hc]))
    have c2 : (bCmp .In (eIx (eVar 0) (eVar 2)) (eGlob "DIGITS" (.str "0123456789"))).sem (w3 s p k) = .ok (decide (48 ≤ c) && decide (c ≤ 57)) (w3 s p k) false := b_cmp (τ2 := false) (o2 := .v (.str "0123456789")) (y := .str "0123456789") ix rfl rfl rfl rfl rfl (in_digits c)
    have c3 : (bCmp .Eq (eIx (eVar 0) (eVar 2)) (eStr "-")).sem (w3 s p k) = .ok (c == 45) (w3 s p k) false := b_cmp (τ2 := false) (o2 := .v (.str "-")) (y := .str "-") ix rfl rfl rfl rfl rfl (eq_one c 45 hlow (by decide))
    refine and_t (τ := false) (τ2 := false) c1 (and_1.trans ?_)
    unfold isw
    cases hd : (decide (48 ≤ c) && decide (c ≤ 57)) with
    | true => rw [hd] at c2; exact or_t c2
    | false => rw [hd] at c2; exact or_f (τ := false) (τ2 := false) c2 (or_1.trans c3)
  · rw [decide_eq_false (by rw [len_list] at hlt; omega)] at c1
    rw [List.getElem?_eq_none (by omega)]
    exact and_f c1
theorem we_loop {s : Str} (h : lowS s) (p : Int) : ∀ (n k : Nat), k ≤ s.cps.toList.length → s.cps.toList.length - k < n →
    whileF n (bAnd [(bCmp .Lt (eVar 2) (eLen (eVar 0))), (bOr [(bCmp .In (eIx (eVar 0) (eVar 2)) (eGlob "DIGITS" (.str "0123456789"))), (bCmp .Eq (eIx (eVar 0) (eVar 2)) (eStr "-"))])]).sem (blk [sSet (gN 2) (eBin .Add (eVar 2) (eInt 1))]).sem (w3 s p k) = .nx (w3 s p ((k + ((s.cps.toList.drop k).takeWhile isw).length : Nat) : Int))
  | 0, k, hk, hn => by omega
  | n + 1, k, hk, hn => by
    have c := we_cond h p k hk
    by_cases hlt : k < s.cps.toList.length
    · rw [List.getElem?_eq_getElem hlt] at c
      simp only at c
      rw [List.drop_eq_getElem_cons hlt]
      cases hw : isw s.cps.toList[k] with
      | false =>
        rw [hw] at c
        rw [List.takeWhile_cons_of_neg (by rw [hw]; exact Bool.false_ne_true)]
        exact w_end c
      | true =>
        rw [hw] at c
        rw [List.takeWhile_cons_of_pos hw]
        have st : (blk [sSet (gN 2) (eBin .Add (eVar 2) (eInt 1))]).sem (w3 s p k) = .nx (w3 s p ((k + 1 : Nat) : Int)) := (b_nx (s_set (ρ1 := w3 s p k) (τ := false) (t := .int ((k : Int) + 1)) rfl rfl)).trans b_nil
        rw [w_nx c st, we_loop h p n (k + 1) (by omega) (by omega), List.length_cons, show k + 1 + ((s.cps.toList.drop (k + 1)).takeWhile isw).length = k + (((s.cps.toList.drop (k + 1)).takeWhile isw).length + 1) by omega]
    · rw [List.getElem?_eq_none (by omega)] at c
      rw [List.drop_eq_nil_of_le (by omega)]
      exact w_end c
theorem fuel_ok : 400000 < FUEL := by decide +kernel
theorem word_end_ok {s : Str} (h : lowS s) (k : Nat) (hk : k ≤ s.cps.toList.length) : φ_word_end [.str s, .int k] = .ok (.int ((k + ((s.cps.toList.drop k).takeWhile isw).length : Nat) : Int)) [some (.str s), some (.int k)] := by
  have hl : s.cps.toList.length - k < FUEL := by have := fuel_ok; have := h.2; have := len_list s; omega
  exact fn_ret rfl ((b_nx (s_set (ρ1 := [some (.str s), some (.int k), none]) (ρ2 := w3 s k k) (τ := false) (t := .int k) rfl rfl)).trans ((b_nx (s_while.trans (we_loop h k FUEL k hk hl))).trans (b_ret (s_ret rfl)))) rfl rfl
end K83
set_option Elab.async false
set_option linter.all false
set_option maxRecDepth 100000
set_option maxHeartbeats 400000
/-! k83: number_in. -/
namespace K83
open PySem L2 Pv PySem.NumText
theorem dval_lt : ∀ (cs : List Nat) (a : Nat), (∀ c ∈ cs, 48 ≤ c ∧ c ≤ 57) → cs.foldl (fun acc c => acc * 10 + (c - 48)) a < (a + 1) * 10 ^ cs.length
  | [], a, _ => by simp
  | c :: cs, a, h => by
    have hc := h c List.mem_cons_self
    have ih := dval_lt cs (a * 10 + (c - 48)) fun x hx => h x (List.mem_cons_of_mem _ hx)
    rw [List.foldl_cons, List.length_cons]
    refine Nat.lt_of_lt_of_le ih ?_
    rw [Nat.pow_succ, Nat.mul_comm (10 ^ cs.length) 10, ← Nat.mul_assoc]
    exact Nat.mul_le_mul_right _ (by omega)
theorem digitsVal_lt {cs : List Nat} (h : ∀ c ∈ cs, 48 ≤ c ∧ c ≤ 57) (hl : cs.length ≤ 2500) : digitsVal cs < BIG := by
  have := dval_lt cs 0 h
  refine Nat.lt_of_lt_of_le this ?_
  unfold BIG
  rw [Nat.zero_add, Nat.one_mul]
  exact Nat.pow_le_pow_right (by decide) hl
/-- the body of a word -/
def bodyL (w : List Nat) : List Nat := if w.take 1 = [45] then w.drop 1 else w
def badW (w : List Nat) : Bool := (bodyL w).isEmpty || (decide (45 ∈ bodyL w) || decide (2500 < (bodyL w).length))
theorem isw_dig {c : Nat} (h : isw c = true) (h2 : c ≠ 45) : 48 ≤ c ∧ c ≤ 57 := by
  unfold isw at h
  simp only [Bool.or_eq_true, Bool.and_eq_true, decide_eq_true_eq, beq_iff_eq] at h
  rcases h with h | h
  · exact h
  · exact absurd h h2
theorem word_val {s : Str} (hw : ∀ c ∈ s.cps.toList, isw c = true) (hb : badW s.cps.toList = false) : ∃ n : Int, intOfT (.str s) = some (.int n) ∧ n.natAbs < BIG ∧ PySem.intText? s = some n := by
  unfold badW at hb
  simp only [Bool.or_eq_false_iff, decide_eq_false_iff_not] at hb
  obtain ⟨h1, h2, h3⟩ := hb
  have hl := len_list s
  have seen : numSeenOf s = s.cps.toList := (numText_signs fun c hc => by
    by_cases z : c = 45
    · exact .inl z
    · exact .inr (isw_dig (hw c hc) z)).2
  have fin : ∀ n : Int, s.length ≤ 4300 → PySem.intText? s = some n → intOfT (.str s) = some (.int n) := fun n q e => by
    have c : s.length ≤ 640 ∨ ¬ (numSeenOf s).length ≤ 640 := by rw [seen, hl]; omega
    simp only [intOfT]
    rw [if_pos ⟨q, c⟩, e]
  by_cases t : s.cps.toList.take 1 = [45]
  · have e : s.cps.toList = 45 :: s.cps.toList.drop 1 := by
      conv => lhs; rw [← List.take_append_drop 1 s.cps.toList, t]
      rfl
    unfold bodyL at h1 h2 h3
    rw [if_pos t] at h1 h2 h3
    have al : AllDigits (s.cps.toList.drop 1) := fun c hc => isw_dig (hw c (List.mem_of_mem_drop hc)) fun z => h2 (z ▸ hc)
    have hn : s.cps.toList.drop 1 ≠ [] := fun z => by rw [z] at h1; cases h1
    have hlen : s.length ≤ 4300 := by have := congrArg List.length e; rw [List.length_cons] at this; omega
    have v := intText_neg e al hn hlen
    exact ⟨_, fin _ hlen v, by rw [Int.natAbs_neg, Int.natAbs_natCast]; exact digitsVal_lt al (by omega), v⟩
  · unfold bodyL at h1 h2 h3
    rw [if_neg t] at h1 h2 h3
    have al : AllDigits s.cps.toList := fun c hc => isw_dig (hw c hc) fun z => h2 (z ▸ hc)
    have hn : s.cps.toList ≠ [] := fun z => by rw [z] at h1; cases h1
    have hlen : s.length ≤ 4300 := by omega
    have v := intText_digits al hn hlen
    exact ⟨_, fin _ hlen v, by rw [Int.natAbs_natCast]; exact digitsVal_lt al (by omega), v⟩
end K83
set_option Elab.async false
set_option linter.all false
set_option maxRecDepth 100000
set_option maxHeartbeats 400000
/-! k83: number_in, the program. -/
namespace K83
open PySem L2 Pv PySem.NumText
abbrev tx (l : List Nat) : Str := ⟨l.toArray⟩
theorem str_beq (x y : Str) : (x == y) = decide (x.cps.toList = y.cps.toList) := by
  by_cases h : x = y
  · subst h; simp
  · have : x.cps.toList ≠ y.cps.toList := fun z => h (by cases x; cases y; simp only [Str.mk.injEq]; exact Array.ext' z)
    rw [decide_eq_false this]
    simpa using h
theorem cut_hi (s : Str) : cutS s none (some 1) = tx (s.cps.toList.take 1) := by
  unfold cutS tx
  rw [HT.sIx_none, show (some (1 : Int)) = some ((1 : Nat) : Int) from rfl, HT.sIx_nat, List.drop_zero, Nat.sub_zero, ← len_list]
  congr 2
  rcases Nat.lt_or_ge s.cps.toList.length 1 with h | h
  · have : s.cps.toList = [] := List.length_eq_zero_iff.mp (by omega)
    rw [this]; rfl
  · rw [Nat.min_eq_left h]
theorem cut_lo (s : Str) : cutS s (some 1) none = tx (s.cps.toList.drop 1) := by
  unfold cutS tx
  rw [HT.sIx_none, show (some (1 : Int)) = some ((1 : Nat) : Int) from rfl, HT.sIx_nat, ← len_list]
  congr 2
  rcases Nat.lt_or_ge s.cps.toList.length 1 with h | h
  · have : s.cps.toList = [] := List.length_eq_zero_iff.mp (by omega)
    rw [this]; rfl
  · rw [Nat.min_eq_left h]
    exact List.take_of_length_le (by simp)
theorem sl_hi {a : Ex} {ρ : Rho} {s : Str} (h : a.sem ρ = .ok (.v (.str s)) ρ false) (hz : s.length ≤ sizeLine) : (eSlH a (eInt 1)).sem ρ = .ok (.v (.str (tx (s.cps.toList.take 1)))) ρ false := by
  show opSem [a.sem, intSem (eInt 1).sem] (f2 slHF) ρ = _
  unfold opSem
  rw [ev2 (τ1 := false) (τ2 := false) (o2 := .v (.int 1)) (ρ2 := ρ) h rfl rfl rfl]
  simp only [f2, getO, slHF, sliceT, if_pos hz, cut_hi]
  rfl
theorem sl_lo {a : Ex} {ρ : Rho} {s : Str} (h : a.sem ρ = .ok (.v (.str s)) ρ false) (hz : s.length ≤ sizeLine) : (eSlL a (eInt 1)).sem ρ = .ok (.v (.str (tx (s.cps.toList.drop 1)))) ρ false := by
  show opSem [a.sem, intSem (eInt 1).sem] (f2 slLF) ρ = _
  unfold opSem
  rw [ev2 (τ1 := false) (τ2 := false) (o2 := .v (.int 1)) (ρ2 := ρ) h rfl rfl rfl]
  simp only [f2, getO, slLF, sliceT, if_pos hz, cut_lo]
  rfl
theorem in_body (l : List Nat) : cmpT .In (.str "-") (.str (tx l)) = some (decide (45 ∈ l)) := rfl
theorem number_in_ok {s : Str} (hs : lowS s) (hw : ∀ c ∈ s.cps.toList, isw c = true) :
    (s.cps.toList = [45] ∧ φ_number_in [.str s] = .ok (.tup [.bl true, .non]) [some (.str s)]) ∨ (s.cps.toList ≠ [45] ∧ badW s.cps.toList = true ∧ φ_number_in [.str s] = .ok (.tup [.bl false, .non]) [some (.str s)]) ∨
    (s.cps.toList ≠ [45] ∧ badW s.cps.toList = false ∧ ∃ n : Int, PySem.intText? s = some n ∧ n.natAbs < BIG ∧ φ_number_in [.str s] = .ok (.tup [.bl true, .int n]) [some (.str s)]) := by
  have low1 : ∀ c ∈ (Str.ofString "-").cps.toList, c < 0x110000 := by decide
  have c1 : (bCmp .Eq (eVar 0) (eStr "-")).sem [some (.str s), none] = .ok (decide (s.cps.toList = [45])) [some (.str s), none] false := by
    refine b_cmp (τ1 := false) (τ2 := false) (o1 := .v (.str s)) (o2 := .v (.str "-")) (x := .str s) (y := .str "-") rfl rfl rfl rfl rfl rfl ?_
    show eqT _ _ = _
    rw [eq_str hs.1 low1, str_beq]
    rfl
  by_cases h45 : s.cps.toList = [45]
  · rw [decide_eq_true h45] at c1
    exact .inl ⟨h45, fn_ret rfl (b_ret ((i_t c1).trans (b_ret (s_ret rfl)))) rfl rfl⟩
  rw [decide_eq_false h45] at c1
  have hz := low_line hs
  -- the body
  have c2 : (bCmp .Eq (eSlH (eVar 0) (eInt 1)) (eStr "-")).sem [some (.str s), none] = .ok (decide (s.cps.toList.take 1 = [45])) [some (.str s), none] false := by
    refine b_cmp (τ1 := false) (τ2 := false) (o2 := .v (.str "-")) (y := .str "-") (sl_hi rfl hz) rfl rfl rfl rfl rfl ?_
    show eqT _ _ = _
    rw [eq_str (fun c hc => hs.1 c (List.mem_of_mem_take (by simpa using hc))) low1, str_beq]
    rfl
  have b1 : (sSet (gN 1) (eIf (bCmp .Eq (eSlH (eVar 0) (eInt 1)) (eStr "-")) (eSlL (eVar 0) (eInt 1)) (eVar 0))).sem [some (.str s), none] = .nx [some (.str s), some (.str (tx (bodyL s.cps.toList)))] := by
    refine s_set (ρ1 := [some (.str s), none]) (τ := false) (t := .str (tx (bodyL s.cps.toList))) (e_if (τ := false) (τ2 := false) c2 ?_) rfl
    unfold bodyL
    by_cases t : s.cps.toList.take 1 = [45]
    · rw [if_pos (decide_eq_true t), if_pos t]
      exact sl_lo rfl hz
    · rw [if_neg (by simpa using t), if_neg t]
      rfl
  have lowb : ∀ c ∈ (tx (bodyL s.cps.toList)).cps.toList, c < 0x110000 := fun c hc => by
    refine hs.1 c ?_
    have hc : c ∈ bodyL s.cps.toList := by simpa using hc
    unfold bodyL at hc
    split at hc
    · exact List.mem_of_mem_drop hc
    · exact hc
  have lenb : (bodyL s.cps.toList).length ≤ s.length := by
    unfold bodyL
    split
    · rw [List.length_drop, len_list]; omega
    · rw [len_list]; exact Nat.le_refl _
  let ρ2 : Rho := [some (.str s), some (.str (tx (bodyL s.cps.toList)))]
  have d1 : (bCmp .Eq (eVar 1) (eStr "")).sem ρ2 = .ok (bodyL s.cps.toList).isEmpty ρ2 false := by
    refine b_cmp (τ1 := false) (τ2 := false) (o1 := .v (.str (tx (bodyL s.cps.toList)))) (o2 := .v (.str "")) (x := .str (tx (bodyL s.cps.toList))) (y := .str "") rfl rfl rfl rfl rfl rfl ?_
    show eqT _ _ = _
    rw [eq_str lowb (by decide), str_beq]
    show some (decide ((bodyL s.cps.toList) = [])) = _
    congr 1
    cases bodyL s.cps.toList <;> rfl
  have d2 : (bCmp .In (eStr "-") (eVar 1)).sem ρ2 = .ok (decide (45 ∈ bodyL s.cps.toList)) ρ2 false := b_cmp (τ1 := false) (τ2 := false) (o1 := .v (.str "-")) (o2 := .v (.str (tx (bodyL s.cps.toList)))) (x := .str "-") (y := .str (tx (bodyL s.cps.toList))) rfl rfl rfl rfl rfl rfl (in_body _)
  have d3 : (bCmp .Gt (eLen (eVar 1)) (eGlob "DIGITS_MOST" (.int 2500))).sem ρ2 = .ok (decide (2500 < (bodyL s.cps.toList).length)) ρ2 false := by
    have el : (eLen (eVar 1)).sem ρ2 = .ok (.v (.int (tx (bodyL s.cps.toList)).length)) ρ2 false := e_len_s (o := .v (.str (tx (bodyL s.cps.toList)))) rfl rfl rfl (by show (bodyL s.cps.toList).toArray.size ≤ _; rw [List.size_toArray]; omega)
    refine b_cmp (τ2 := false) (o2 := .v (.int 2500)) (y := .int 2500) el rfl rfl rfl rfl rfl ?_
    show some (decide ((2500 : Int) < ((bodyL s.cps.toList).toArray.size : Int))) = _
    rw [List.size_toArray]
    congr 1
    exact decide_eq_decide.mpr (by omega)
  have or3 : (bOr [(bCmp .Eq (eVar 1) (eStr "")), (bCmp .In (eStr "-") (eVar 1)), (bCmp .Gt (eLen (eVar 1)) (eGlob "DIGITS_MOST" (.int 2500)))]).sem ρ2 = .ok (badW s.cps.toList) ρ2 false := by
    unfold badW
    cases e1 : (bodyL s.cps.toList).isEmpty with
    | true => rw [e1] at d1; exact or_t d1
    | false =>
      rw [e1] at d1
      cases e2 : decide (45 ∈ bodyL s.cps.toList) with
      | true => rw [e2] at d2; exact or_f (τ := false) (τ2 := false) d1 (or_t d2)
      | false => rw [e2] at d2; exact or_f (τ := false) (τ2 := false) d1 (or_f (τ := false) (τ2 := false) d2 (or_1.trans d3))
  cases hb : badW s.cps.toList with
  | true =>
    rw [hb] at or3
    exact .inr (.inl ⟨h45, rfl, fn_ret rfl ((b_nx ((i_f c1).trans rfl)).trans ((b_nx b1).trans (b_ret ((i_t or3).trans (b_ret (s_ret rfl)))))) rfl rfl⟩)
  | false =>
    rw [hb] at or3
    obtain ⟨n, q1, q2, q3⟩ := word_val hw hb
    have it : (eIntT (eVar 0)).sem ρ2 = .ok (.v (.int n)) ρ2 false := by
      show opSem [(eVar 0).sem] (f1 intOfT) ρ2 = _
      unfold opSem
      rw [ev1 (o1 := .v (.str s)) (ρ1 := ρ2) (τ1 := false) rfl rfl]
      simp only [f1, getO, q1]
    have tp : (eTup (xs [(eBl true), (eIntT (eVar 0))])).sem ρ2 = .ok (.v (.tup [.bl true, .int n])) ρ2 false := e_tup (ts := [.bl true, .int n]) (evc (τ1 := false) (t := .bl true) (ρ1 := ρ2) rfl (evc it evn)) (by show 2 ≤ 10000; decide)
    exact .inr (.inr ⟨h45, rfl, n, q3, q2, fn_ret rfl ((b_nx ((i_f c1).trans rfl)).trans ((b_nx b1).trans ((b_nx ((i_f or3).trans rfl)).trans (b_ret (s_ret tp))))) rfl rfl⟩)
end K83
set_option Elab.async false
set_option linter.all false
set_option maxRecDepth 100000
set_option maxHeartbeats 400000
/-! k83: read_one. -/
namespace K83
open PySem L2 Pv
def ne34 (c : Nat) : Bool := c != 34
/-- the signs up to the next quote -/
def qb (l : List Nat) (k : Nat) : List Nat := (l.drop k).takeWhile ne34
theorem tw_lt : ∀ (l : List Nat), (l.takeWhile ne34).length < l.length → l[(l.takeWhile ne34).length]? = some 34
  | [], h => by simp at h
  | c :: l, h => by
    cases hc : ne34 c with
    | true =>
      rw [List.takeWhile_cons_of_pos hc] at h ⊢
      simp only [List.length_cons, List.getElem?_cons_succ] at h ⊢
      exact tw_lt l (by omega)
    | false =>
      rw [List.takeWhile_cons_of_neg (by rw [hc]; exact Bool.false_ne_true)]
      have : c = 34 := by simpa [ne34] using hc
      simp [this]
theorem tw_in : ∀ (l : List Nat) (j : Nat), j < (l.takeWhile ne34).length → ∃ c, l[j]? = some c ∧ c ≠ 34
  | [], j, h => by simp at h
  | c :: l, j, h => by
    cases hc : ne34 c with
    | true =>
      rw [List.takeWhile_cons_of_pos hc] at h
      cases j with
      | zero => exact ⟨c, rfl, by simpa [ne34] using hc⟩
      | succ j =>
        obtain ⟨d, e, n⟩ := tw_in l j (by simpa using h)
        exact ⟨d, by simpa using e, n⟩
    | false =>
      rw [List.takeWhile_cons_of_neg (by rw [hc]; exact Bool.false_ne_true)] at h
      simp at h
theorem getD_list (s : Str) (v : Nat) : s.cps.getD v 0 = (s.cps.toList[v]?).getD 0 := by
  rw [Array.getD_eq_getD_getElem?]; simp
theorem find_ok (s : Str) (k : Nat) (hk : k ≤ s.cps.toList.length) : Txt.find3 s "\"" (k : Int) = if (qb s.cps.toList k).length = (s.cps.toList.drop k).length then -1 else ((k + (qb s.cps.toList k).length : Nat) : Int) := by
  have hn : ("\"" : Str) = ⟨#[34]⟩ := by decide +kernel
  rw [hn]
  have fi : fromIndex s.length (k : Int) = k := by unfold fromIndex; rw [if_neg (by omega)]; omega
  have hl := len_list s
  have at_ : ∀ v, k ≤ v → s.cps.toList[v]? = (s.cps.toList.drop k)[v - k]? := fun v hv => by rw [List.getElem?_drop]; congr 1; omega
  have hle : (qb s.cps.toList k).length ≤ (s.cps.toList.drop k).length := (List.takeWhile_sublist _).length_le
  have hd : (s.cps.toList.drop k).length = s.cps.toList.length - k := List.length_drop
  rcases StrLaws.find3_spec s 34 (k : Int) with ⟨h, hno⟩ | ⟨j, h, h1, h2, h3, hno⟩
  · rw [h, fi] at *
    refine (if_pos ?_).symm
    rcases Nat.lt_or_ge (qb s.cps.toList k).length (s.cps.toList.drop k).length with c | c
    · have e := tw_lt (s.cps.toList.drop k) c
      refine absurd ?_ (hno (k + (qb s.cps.toList k).length) (by omega) (by omega))
      rw [getD_list, at_ _ (by omega), Nat.add_sub_cancel_left]
      unfold qb
      rw [e]; rfl
    · omega
  · rw [fi] at h1 hno
    rw [h]
    have e3 : s.cps.toList[j]? = some 34 := by
      rw [getD_list] at h3
      have hj : j < s.cps.toList.length := by omega
      rw [List.getElem?_eq_getElem hj] at h3 ⊢
      exact congrArg some h3
    have ge : (qb s.cps.toList k).length ≤ j - k := by
      rcases Nat.lt_or_ge (j - k) (qb s.cps.toList k).length with c | c
      · obtain ⟨d, q1, q2⟩ := tw_in (s.cps.toList.drop k) (j - k) c
        rw [← at_ j h1, e3] at q1
        exact absurd (Option.some.inj q1).symm q2
      · exact c
    have le : ¬ (qb s.cps.toList k).length < j - k := fun c => by
      have e := tw_lt (s.cps.toList.drop k) (by show (qb s.cps.toList k).length < _; omega)
      refine hno (k + (qb s.cps.toList k).length) (by omega) (by omega) ?_
      rw [getD_list, at_ _ (by omega), Nat.add_sub_cancel_left]
      unfold qb
      rw [e]; rfl
    rw [if_neg (by omega)]
    congr 1
    omega
end K83
set_option Elab.async false
set_option linter.all false
set_option maxRecDepth 100000
set_option maxHeartbeats 400000
/-! k83: read_one, the program. -/
namespace K83
open PySem L2 Pv
theorem cut_two (s : Str) (k n : Nat) (h : k + n ≤ s.cps.toList.length) : cutS s (some (k : Int)) (some ((k + n : Nat) : Int)) = tx ((s.cps.toList.drop k).take n) := by
  unfold cutS tx
  rw [HT.sIx_nat, HT.sIx_nat, ← len_list, Nat.min_eq_left h, Nat.min_eq_left (show k ≤ s.cps.toList.length by omega), Nat.add_sub_cancel_left]
theorem take_tw (l : List Nat) : l.take (l.takeWhile ne34).length = l.takeWhile ne34 := by
  have := List.takeWhile_append_dropWhile (p := ne34) (l := l)
  conv => lhs; arg 2; rw [← this]
  rw [List.take_left']
  rfl
abbrev r1 (s : Str) (p : Nat) (a b c d : Option T) : Rho := [some (.str s), some (.int p), a, b, c, d]
/-- a text in quotes -/
theorem read_str {s : Str} (hs : lowS s) {p : Nat} (hp : s.cps.toList[p]? = some 34) :
    φ_read_one [.str s, .int p] = (if (qb s.cps.toList (p + 1)).length = (s.cps.toList.drop (p + 1)).length ∨ 6400 < (qb s.cps.toList (p + 1)).length then .ok (.tup [.bl false, .non, .int p]) [some (.str s), some (.int p)]
      else .ok (.tup [.bl ((qb s.cps.toList (p + 1)).all okc), .str (tx (qb s.cps.toList (p + 1))), .int ((p + (qb s.cps.toList (p + 1)).length + 2 : Nat) : Int)]) [some (.str s), some (.int p)]) := by
  have hz := low_line hs
  obtain ⟨hlt, hp'⟩ := List.getElem?_eq_some_iff.mp hp
  have hd : (s.cps.toList.drop (p + 1)).length = s.cps.toList.length - (p + 1) := List.length_drop
  have hle : (qb s.cps.toList (p + 1)).length ≤ (s.cps.toList.drop (p + 1)).length := (List.takeWhile_sublist _).length_le
  have c0 : (bCmp .Eq (eIx (eVar 0) (eVar 1)) (eStr "\"")).sem (r1 s p none none none none) = .ok true (r1 s p none none none none) false := by
    have ix : (eIx (eVar 0) (eVar 1)).sem (r1 s p none none none none) = .ok (.v (.str ⟨#[34]⟩)) (r1 s p none none none none) false := e_ix (τ1 := false) (τ2 := false) (o1 := .v (.str s)) (o2 := .v (.int p)) rfl rfl rfl rfl rfl rfl (ix_str hz (by rw [at_of hlt, hp']))
    exact b_cmp (τ2 := false) (o2 := .v (.str "\"")) (y := .str "\"") ix rfl rfl rfl rfl rfl (eq_one 34 34 (by decide) (by decide))
  have f1 := find_ok s (p + 1) (by omega)
  generalize hq : qb s.cps.toList (p + 1) = q at *
  generalize hF : Txt.find3 s "\"" ((p + 1 : Nat) : Int) = F at *
  have s1 : (sSet (gN 2) (eFind3 (eVar 0) (eStr "\"") (eBin .Add (eVar 1) (eInt 1)))).sem (r1 s p none none none none) = .nx (r1 s p (some (.int F)) none none none) := by
    refine s_set (ρ1 := r1 s p none none none none) (τ := false) (t := .int F) ?_ rfl
    rw [← hF]
    rfl
  let ρ1 : Rho := r1 s p (some (.int F)) none none none
  have c1 : (bCmp .Eq (eVar 2) (eNeg (eInt 1))).sem ρ1 = .ok (F == -1) ρ1 false := rfl
  have c2 : (bCmp .Gt (eBin .Sub (eBin .Sub (eVar 2) (eVar 1)) (eInt 1)) (eGlob "STRING_MOST" (.int 6400))).sem ρ1 = .ok (decide (6400 < F - p - 1)) ρ1 false := rfl
  by_cases hno : q.length = (s.cps.toList.drop (p + 1)).length
  · rw [if_pos (.inl hno)]
    rw [if_pos hno] at f1
    subst f1
    exact fn_ret rfl (b_ret ((i_t c0).trans ((b_nx s1).trans (b_ret ((i_t (or_t c1)).trans (b_ret (s_ret rfl))))))) rfl rfl
  · rw [if_neg hno] at f1
    have F1 : (F == -1) = false := by rw [f1]; simp; omega
    rw [F1] at c1
    have F2 : decide (6400 < F - p - 1) = decide (6400 < q.length) := by rw [f1]; exact decide_eq_decide.mpr (by omega)
    rw [F2] at c2
    by_cases hbig : 6400 < q.length
    · rw [if_pos (.inr hbig)]
      rw [decide_eq_true hbig] at c2
      exact fn_ret rfl (b_ret ((i_t c0).trans ((b_nx s1).trans (b_ret ((i_t (or_f (τ := false) (τ2 := false) c1 (or_1.trans c2))).trans (b_ret (s_ret rfl))))))) rfl rfl
    · rw [if_neg (by rintro (z | z); exact hno z; exact hbig z)]
      rw [decide_eq_false hbig] at c2
      have cut : cutS s (some ((p : Int) + 1)) (some F) = tx q := by
        rw [f1]
        have := cut_two s (p + 1) q.length (by omega)
        rw [show ((p : Int) + 1) = ((p + 1 : Nat) : Int) by omega, this, ← hq]
        unfold qb
        rw [take_tw]
      have s3 : (sSet (gN 3) (eSl2 (eVar 0) (eBin .Add (eVar 1) (eInt 1)) (eVar 2))).sem ρ1 = .nx (r1 s p (some (.int F)) (some (.str (tx q))) none none) := by
        refine s_set (ρ1 := ρ1) (τ := false) (t := .str (tx q)) ?_ rfl
        show opSem [(eVar 0).sem, intSem (eBin .Add (eVar 1) (eInt 1)).sem, intSem (eVar 2).sem] (f3 sl2F) ρ1 = _
        unfold opSem
        rw [evc (t := .str s) (ρ1 := ρ1) (τ1 := false) rfl (evc (t := .int ((p : Int) + 1)) (ρ1 := ρ1) (τ1 := false) rfl (evc (t := .int F) (ρ1 := ρ1) (τ1 := false) rfl evn))]
        simp only [f3, getO, sl2F, sliceT, if_pos hz, cut]
        rfl
      let ρ2 : Rho := r1 s p (some (.int F)) (some (.str (tx q))) none none
      have cl : (eCall F_is_plain (xs [(eVar 3)])).sem ρ2 = .ok (.v (.bl (q.all okc))) ρ2 false :=
        e_call (ρ1 := ρ2) (τ := false) (os := [.v (.str (tx q))]) (ts := [.str (tx q)]) rfl rfl rfl rfl (is_plain_ok (tx q)) rfl
      have tp : (eTup (xs [(eCall F_is_plain (xs [(eVar 3)])), (eVar 3), (eBin .Add (eVar 2) (eInt 1))])).sem ρ2 = .ok (.v (.tup [.bl (q.all okc), .str (tx q), .int ((p + q.length + 2 : Nat) : Int)])) ρ2 false := by
        refine e_tup (ts := [.bl (q.all okc), .str (tx q), .int ((p + q.length + 2 : Nat) : Int)]) (evc cl (evc (t := .str (tx q)) (ρ1 := ρ2) (τ1 := false) rfl (evc (t := .int ((p + q.length + 2 : Nat) : Int)) (ρ1 := ρ2) (τ1 := false) ?_ evn))) (by show 3 ≤ 10000; decide)
        rw [show ((p + q.length + 2 : Nat) : Int) = F + 1 by rw [f1]; omega]
        rfl
      exact fn_ret rfl (b_ret ((i_t c0).trans ((b_nx s1).trans ((b_nx ((i_f (or_f (τ := false) (τ2 := false) c1 (or_1.trans c2))).trans rfl)).trans ((b_nx s3).trans (b_ret (s_ret tp))))))) rfl rfl
end K83
set_option Elab.async false
set_option linter.all false
set_option maxRecDepth 100000
set_option maxHeartbeats 400000
/-! k83: read_one of a number or None. -/
namespace K83
open PySem L2 Pv
/-- the word at p -/
def wd (l : List Nat) (p : Nat) : List Nat := (l.drop p).takeWhile isw
theorem take_iw (l : List Nat) : l.take (l.takeWhile isw).length = l.takeWhile isw := by
  have := List.takeWhile_append_dropWhile (p := isw) (l := l)
  conv => lhs; arg 2; rw [← this]
  rw [List.take_left']
  rfl
theorem wd_all (l : List Nat) (p : Nat) : ∀ c ∈ wd l p, isw c = true := by
  unfold wd
  intro c hc
  exact List.all_eq_true.mp (List.all_takeWhile) c hc
theorem read_num {s : Str} (hs : lowS s) {p c : Nat} (hp : s.cps.toList[p]? = some c) (hc : c ≠ 34) {b : Bool} {t : T} (him : t.imm = true) (hn : φ_number_in [.str (tx (wd s.cps.toList p))] = .ok (.tup [.bl b, t]) [some (.str (tx (wd s.cps.toList p)))]) :
    φ_read_one [.str s, .int p] = .ok (.tup [.bl b, t, .int ((p + (wd s.cps.toList p).length : Nat) : Int)]) [some (.str s), some (.int p)] := by
  have hz := low_line hs
  obtain ⟨hlt, hp'⟩ := List.getElem?_eq_some_iff.mp hp
  have hlow : c < 0x110000 := hs.1 c (by rw [← hp']; exact List.getElem_mem hlt)
  have hle : (wd s.cps.toList p).length ≤ (s.cps.toList.drop p).length := (List.takeWhile_sublist _).length_le
  have hd : (s.cps.toList.drop p).length = s.cps.toList.length - p := List.length_drop
  have c0 : (bCmp .Eq (eIx (eVar 0) (eVar 1)) (eStr "\"")).sem (r1 s p none none none none) = .ok false (r1 s p none none none none) false := by
    have ix : (eIx (eVar 0) (eVar 1)).sem (r1 s p none none none none) = .ok (.v (.str ⟨#[c]⟩)) (r1 s p none none none none) false := e_ix (τ1 := false) (τ2 := false) (o1 := .v (.str s)) (o2 := .v (.int p)) rfl rfl rfl rfl rfl rfl (ix_str hz (by rw [at_of hlt, hp']))
    have e := eq_one c 34 hlow (by decide)
    rw [show (c == 34) = false by simpa using hc] at e
    exact b_cmp (τ2 := false) (o2 := .v (.str "\"")) (y := .str "\"") ix rfl rfl rfl rfl rfl e
  have we := word_end_ok hs p (by omega)
  have hq : (wd s.cps.toList p) = (s.cps.toList.drop p).takeWhile isw := rfl
  rw [← hq] at we
  generalize hL : ((p + (wd s.cps.toList p).length : Nat) : Int) = L at *
  have s1 : (sSet (gN 2) (eCall F_word_end (xs [(eVar 0), (eVar 1)]))).sem (r1 s p none none none none) = .nx (r1 s p (some (.int L)) none none none) :=
    s_set (ρ1 := r1 s p none none none none) (t := .int L) (e_call (ρ1 := r1 s p none none none none) (τ := false) (os := [.v (.str s), .v (.int p)]) (ts := [.str s, .int p]) rfl rfl rfl rfl we rfl) rfl
  let ρ1 : Rho := r1 s p (some (.int L)) none none none
  have cut : cutS s (some (p : Int)) (some L) = tx (wd s.cps.toList p) := by
    rw [← hL, cut_two s p _ (by omega)]
    unfold wd
    rw [take_iw]
  have sl : (eSl2 (eVar 0) (eVar 1) (eVar 2)).sem ρ1 = .ok (.v (.str (tx (wd s.cps.toList p)))) ρ1 false := by
    show opSem [(eVar 0).sem, intSem (eVar 1).sem, intSem (eVar 2).sem] (f3 sl2F) ρ1 = _
    unfold opSem
    rw [evc (t := .str s) (ρ1 := ρ1) (τ1 := false) rfl (evc (t := .int (p : Int)) (ρ1 := ρ1) (τ1 := false) rfl (evc (t := .int L) (ρ1 := ρ1) (τ1 := false) rfl evn))]
    simp only [f3, getO, sl2F, sliceT, if_pos hz, cut]
    rfl
  have cl : (eCall F_number_in (xs [(eSl2 (eVar 0) (eVar 1) (eVar 2))])).sem ρ1 = .ok (.v (.tup [.bl b, t])) ρ1 false :=
    e_call (ρ1 := ρ1) (τ := false) (os := [.v (.str (tx (wd s.cps.toList p)))]) (ts := [.str (tx (wd s.cps.toList p))]) (evc (τ1 := false) (τ2 := false) sl evn) rfl rfl rfl hn rfl
  have s2 : (sSet (gT [4, 5]) (eCall F_number_in (xs [(eSl2 (eVar 0) (eVar 1) (eVar 2))]))).sem ρ1 = .nx (r1 s p (some (.int L)) none (some (.bl b)) (some t)) := by
    refine s_set cl ?_
    show (if T.imms [.bl b, t] = true then _ else none) = _
    rw [if_pos (by simp [T.imms, T.imm, him])]
    rfl
  let ρ2 : Rho := r1 s p (some (.int L)) none (some (.bl b)) (some t)
  have v5 : (eVar 5).sem ρ2 = .ok (.v t) ρ2 false := by
    show varSem 5 ρ2 = _
    unfold varSem
    simp only [ρ2, r1]
    show (if t.imm = true then _ else _) = _
    rw [if_pos him]
  have tp : (eTup (xs [(eVar 4), (eVar 5), (eVar 2)])).sem ρ2 = .ok (.v (.tup [.bl b, t, .int L])) ρ2 false :=
    e_tup (ts := [.bl b, t, .int L]) (evc (t := .bl b) (ρ1 := ρ2) (τ1 := false) rfl (evc v5 (evc (t := .int L) (ρ1 := ρ2) (τ1 := false) rfl evn))) (by show 3 ≤ 10000; decide)
  exact fn_ret rfl ((b_nx ((i_f c0).trans rfl)).trans ((b_nx s1).trans ((b_nx s2).trans (b_ret (s_ret tp))))) rfl rfl
end K83
set_option Elab.async false
set_option linter.all false
set_option maxRecDepth 100000
set_option maxHeartbeats 400000
/-! k83: one turn of read_parts. -/
namespace K83
open PySem L2 Pv
def rowsL (rows : List (List T)) : List T := rows.map .lst
abbrev r7 (s : Str) (rows : List (List T)) (p : Nat) (a b c d : Option T) : Rho := [some (.str s), some (.lst (rowsL rows)), some (.int p), a, b, c, d]
def turnB : List Sx := [sSet (gN 3) (eIx (eVar 0) (eVar 2)),
  sIf (bCmp .Eq (eVar 3) (eStr "(")) (blk [sExpr (eAppend (eVar 1) (eLst (xs []))),
  sSet (gN 2) (eBin .Add (eVar 2) (eInt 1))]) (blk [sIf (bCmp .Eq (eVar 3) (eStr ")")) (blk [sSet (gN 4) (ePop (eVar 1)),
  sIf (bCmp .Eq (eLen (eVar 1)) (eInt 0)) (blk [sRet eNon]) (blk []),
  sExpr (eAppend (eIx (eVar 1) (eNeg (eInt 1))) (eTuple (eVar 4))),
  sSet (gN 2) (eBin .Add (eVar 2) (eInt 1))]) (blk [sIf (bCmp .Eq (eVar 3) (eStr " ")) (blk [sSet (gN 2) (eBin .Add (eVar 2) (eInt 1))]) (blk [sSet (gT [5, 6, 2]) (eCall F_read_one (xs [(eVar 0), (eVar 2)])),
  sIf (bNot (bTruth (eVar 5))) (blk [sRet eNon]) (blk []),
  sExpr (eAppend (eIx (eVar 1) (eNeg (eInt 1))) (eVar 6))])])]),
  sIf (bCmp .Gt (eLen (eVar 1)) (eBin .Add (eGlob "DEPTH_MOST" (.int 60)) (eInt 1))) (blk [sRet eNon]) (blk [])]
theorem read_parts_is : b_read_parts = blk [sSet (gN 1) (eLst (xs [(eLst (xs []))])),
  sSet (gN 2) (eInt 0),
  sWhile FUEL (bCmp .Lt (eVar 2) (eLen (eVar 0))) (blk turnB),
  sRet (eIf (bCmp .Eq (eLen (eVar 1)) (eInt 1)) (eIx (eVar 1) (eInt 0)) eNon)] := rfl
theorem sg_cmp {s : Str} {rows : List (List T)} {p c : Nat} {x y z : Option T} (hc : c < 0x110000) (d : Nat) (hd : d < 0x110000) (e : Str) (he : e = ⟨#[d]⟩) :
    (bCmp .Eq (eVar 3) (eStr e)).sem (r7 s rows p (some (.str ⟨#[c]⟩)) x y z) = .ok (c == d) (r7 s rows p (some (.str ⟨#[c]⟩)) x y z) false := by
  subst he
  exact b_cmp (τ1 := false) (τ2 := false) (o1 := .v (.str ⟨#[c]⟩)) (o2 := .v (.str ⟨#[d]⟩)) (x := .str ⟨#[c]⟩) (y := .str ⟨#[d]⟩) rfl rfl rfl rfl rfl rfl (eq_one c d hc hd)
theorem t_tail {s : Str} {rows : List (List T)} {p : Nat} {w x y z : Option T} :
    (blk [sIf (bCmp .Gt (eLen (eVar 1)) (eBin .Add (eGlob "DEPTH_MOST" (.int 60)) (eInt 1))) (blk [sRet eNon]) (blk [])]).sem (r7 s rows p w x y z) = if 61 < rows.length then .ret .non (r7 s rows p w x y z) else .nx (r7 s rows p w x y z) := by
  have c : (bCmp .Gt (eLen (eVar 1)) (eBin .Add (eGlob "DEPTH_MOST" (.int 60)) (eInt 1))).sem (r7 s rows p w x y z) = .ok (decide ((61 : Int) < ((rowsL rows).length : Int))) (r7 s rows p w x y z) false := rfl
  have hl : (rowsL rows).length = rows.length := List.length_map _
  by_cases h : 61 < rows.length
  · rw [decide_eq_true (by omega)] at c
    rw [if_pos h]
    exact b_ret ((i_t c).trans (b_ret (s_ret rfl)))
  · rw [decide_eq_false (by omega)] at c
    rw [if_neg h]
    exact (b_nx ((i_f c).trans rfl)).trans b_nil
theorem t_sign {s : Str} (hs : lowS s) {rows : List (List T)} {p c : Nat} (hp : s.cps.toList[p]? = some c) {w x y z : Option T} :
    (sSet (gN 3) (eIx (eVar 0) (eVar 2))).sem (r7 s rows p w x y z) = .nx (r7 s rows p (some (.str ⟨#[c]⟩)) x y z) := by
  obtain ⟨hlt, hp'⟩ := List.getElem?_eq_some_iff.mp hp
  have ix : (eIx (eVar 0) (eVar 2)).sem (r7 s rows p w x y z) = .ok (.v (.str ⟨#[c]⟩)) (r7 s rows p w x y z) false := e_ix (τ1 := false) (τ2 := false) (o1 := .v (.str s)) (o2 := .v (.int p)) rfl rfl rfl rfl rfl rfl (ix_str (low_line hs) (by rw [at_of hlt, hp']))
  exact s_set ix rfl
theorem t_next {s : Str} {rows : List (List T)} {p : Nat} {w x y z : Option T} : (blk [sSet (gN 2) (eBin .Add (eVar 2) (eInt 1))]).sem (r7 s rows p w x y z) = .nx (r7 s rows (p + 1) w x y z) :=
  (b_nx (s_set (ρ1 := r7 s rows p w x y z) (τ := false) (t := .int ((p : Int) + 1)) rfl rfl)).trans b_nil
theorem turn_open {s : Str} (hs : lowS s) {rows : List (List T)} (hr : rows.length ≤ 61) {p : Nat} (hp : s.cps.toList[p]? = some 40) {w x y z : Option T} :
    (blk turnB).sem (r7 s rows p w x y z) = if 61 < rows.length + 1 then .ret .non (r7 s (rows ++ [[]]) (p + 1) (some (.str ⟨#[40]⟩)) x y z) else .nx (r7 s (rows ++ [[]]) (p + 1) (some (.str ⟨#[40]⟩)) x y z) := by
  have c1 := sg_cmp (s := s) (rows := rows) (p := p) (c := 40) (x := x) (y := y) (z := z) (by decide) 40 (by decide) "(" (by decide +kernel)
  have ap : (sExpr (eAppend (eVar 1) (eLst (xs [])))).sem (r7 s rows p (some (.str ⟨#[40]⟩)) x y z) = .nx (r7 s (rows ++ [[]]) p (some (.str ⟨#[40]⟩)) x y z) := by
    have := s_app (i := 1) (a := eLst (xs [])) (ρ := r7 s rows p (some (.str ⟨#[40]⟩)) x y z) (ρ1 := r7 s rows p (some (.str ⟨#[40]⟩)) x y z) (ts := rowsL rows) (ts1 := rowsL rows) (t := .lst []) (τ := false) rfl rfl rfl (by show (rowsL rows).length < _; rw [rowsL, List.length_map, sizeLine_eq]; omega)
    have e : rowsL rows ++ [T.lst []] = rowsL (rows ++ [[]]) := by unfold rowsL; rw [List.map_append]; rfl
    rw [this, e]
    rfl
  refine (b_nx (t_sign hs hp)).trans ((b_nx ((i_t c1).trans ((b_nx ap).trans t_next))).trans (t_tail.trans ?_))
  rw [List.length_append]
  rfl
theorem rowsL_app (a b : List (List T)) : rowsL (a ++ b) = rowsL a ++ rowsL b := List.map_append
theorem t_pop {s : Str} {pre : List (List T)} {row : List T} {p : Nat} {w x y z : Option T} : (sSet (gN 4) (ePop (eVar 1))).sem (r7 s (pre ++ [row]) p w x y z) = .nx (r7 s pre p w (some (.lst row)) y z) := by
  have e : rowsL (pre ++ [row]) = rowsL pre ++ [.lst row] := rowsL_app pre [row]
  refine s_set (ρ1 := r7 s pre p w x y z) (t := .lst row) (τ := true) ?_ rfl
  have := e_pop (i := 1) (ρ := r7 s (pre ++ [row]) p w x y z) (ts := rowsL (pre ++ [row])) (t := .lst row) rfl (by rw [e]; simp)
  rw [this, e, List.dropLast_concat]
  rfl
theorem t_cnt {s : Str} {rows : List (List T)} {p : Nat} {w x y z : Option T} : (bCmp .Eq (eLen (eVar 1)) (eInt 0)).sem (r7 s rows p w x y z) = .ok (rows.isEmpty) (r7 s rows p w x y z) false := by
  have c : (bCmp .Eq (eLen (eVar 1)) (eInt 0)).sem (r7 s rows p w x y z) = .ok (((rowsL rows).length : Int) == 0) (r7 s rows p w x y z) false := rfl
  rw [c]
  cases rows with
  | nil => rfl
  | cons a r =>
    congr 1
theorem turn_close0 {s : Str} (hs : lowS s) {row : List T} {p : Nat} (hp : s.cps.toList[p]? = some 41) {w x y z : Option T} : ∃ ρ, (blk turnB).sem (r7 s [row] p w x y z) = .ret .non ρ := by
  have c1 := sg_cmp (s := s) (rows := [row]) (p := p) (c := 41) (x := x) (y := y) (z := z) (by decide) 40 (by decide) "(" (by decide +kernel)
  have c2 := sg_cmp (s := s) (rows := [row]) (p := p) (c := 41) (x := x) (y := y) (z := z) (by decide) 41 (by decide) ")" (by decide +kernel)
  refine ⟨_, (b_nx (t_sign hs hp)).trans (b_ret ((i_f c1).trans (b_ret ((i_t c2).trans ((b_nx (t_pop (pre := []))).trans (b_ret ((i_t t_cnt).trans (b_ret (s_ret rfl)))))))))⟩
theorem t_put {s : Str} {pre : List (List T)} {row : List T} {p : Nat} {w x y z : Option T} {a : Ex} {t : T} (ha : a.sem (r7 s (pre ++ [row]) p w x y z) = .ok (.v t) (r7 s (pre ++ [row]) p w x y z) false) (hl : row.length < sizeLine) :
    (sExpr (eAppend (eIx (eVar 1) (eNeg (eInt 1))) a)).sem (r7 s (pre ++ [row]) p w x y z) = .nx (r7 s (pre ++ [row ++ [t]]) p w x y z) := by
  have e : rowsL (pre ++ [row]) = rowsL pre ++ [.lst row] := rowsL_app pre [row]
  have e2 : rowsL (pre ++ [row ++ [t]]) = rowsL pre ++ [.lst (row ++ [t])] := rowsL_app pre [row ++ [t]]
  have := s_app_last (i := 1) (a := a) (ρ := r7 s (pre ++ [row]) p w x y z) (pre := rowsL pre) (row := row) (t := t) (by rw [← e]; rfl) ha hl
  rw [this, ← e2]
  rfl
theorem turn_close {s : Str} (hs : lowS s) {pre : List (List T)} {r0 row : List T} (him : T.imms row = true) (hl : r0.length < sizeLine) {p : Nat} (hp : s.cps.toList[p]? = some 41) (hr : pre.length < 61) {w x y z : Option T} :
    (blk turnB).sem (r7 s ((pre ++ [r0]) ++ [row]) p w x y z) = .nx (r7 s (pre ++ [r0 ++ [.tup row]]) (p + 1) (some (.str ⟨#[41]⟩)) (some (.lst row)) y z) := by
  have c1 := sg_cmp (s := s) (rows := (pre ++ [r0]) ++ [row]) (p := p) (c := 41) (x := x) (y := y) (z := z) (by decide) 40 (by decide) "(" (by decide +kernel)
  have c2 := sg_cmp (s := s) (rows := (pre ++ [r0]) ++ [row]) (p := p) (c := 41) (x := x) (y := y) (z := z) (by decide) 41 (by decide) ")" (by decide +kernel)
  have c3 := t_cnt (s := s) (rows := pre ++ [r0]) (p := p) (w := some (.str ⟨#[41]⟩)) (x := some (.lst row)) (y := y) (z := z)
  rw [show (pre ++ [r0]).isEmpty = false by simp] at c3
  have tu : (eTuple (eVar 4)).sem (r7 s (pre ++ [r0]) p (some (.str ⟨#[41]⟩)) (some (.lst row)) y z) = .ok (.v (.tup row)) (r7 s (pre ++ [r0]) p (some (.str ⟨#[41]⟩)) (some (.lst row)) y z) false := by
    have f : f1 tupleT (r7 s (pre ++ [r0]) p (some (.str ⟨#[41]⟩)) (some (.lst row)) y z) [.p 4 []] = some (.tup row) := by
      have e : f1 tupleT (r7 s (pre ++ [r0]) p (some (.str ⟨#[41]⟩)) (some (.lst row)) y z) [.p 4 []] = tupleT (.lst row) := rfl
      rw [e]
      simp only [tupleT, him, if_true]
    have g : (eTuple (eVar 4)).sem (r7 s (pre ++ [r0]) p (some (.str ⟨#[41]⟩)) (some (.lst row)) y z) = opSem [(eVar 4).sem] (f1 tupleT) (r7 s (pre ++ [r0]) p (some (.str ⟨#[41]⟩)) (some (.lst row)) y z) := rfl
    rw [g]
    unfold opSem
    rw [ev1 (o1 := .p 4 []) (τ1 := false) (ρ1 := r7 s (pre ++ [r0]) p (some (.str ⟨#[41]⟩)) (some (.lst row)) y z) rfl rfl]
    simp only [f]
  refine (b_nx (t_sign hs hp)).trans ((b_nx ((i_f c1).trans ((b_nx ((i_t c2).trans ((b_nx t_pop).trans ((b_nx ((i_f c3).trans rfl)).trans ((b_nx (t_put tu hl)).trans t_next))))).trans b_nil))).trans (t_tail.trans (if_neg ?_)))
  rw [List.length_append]
  simp
  omega
end K83
set_option Elab.async false
set_option linter.all false
set_option maxRecDepth 100000
set_option maxHeartbeats 400000
/-! k83: one turn of read_parts, the words and the space. -/
namespace K83
open PySem L2 Pv
section
variable {s : Str} {rows : List (List T)} {p c : Nat} {w x y z : Option T}
theorem sg_f (hc : c < 0x110000) (d : Nat) (hd : d < 0x110000) (e : Str) (he : e = ⟨#[d]⟩) (n : c ≠ d) :
    (bCmp .Eq (eVar 3) (eStr e)).sem (r7 s rows p (some (.str ⟨#[c]⟩)) x y z) = .ok false (r7 s rows p (some (.str ⟨#[c]⟩)) x y z) false := by
  have := sg_cmp (s := s) (rows := rows) (p := p) (x := x) (y := y) (z := z) hc d hd e he
  rw [show (c == d) = false by simpa using n] at this
  exact this
theorem low_at (hs : lowS s) (hp : s.cps.toList[p]? = some c) : c < 0x110000 := hs.1 c (List.mem_of_getElem? hp)
theorem turn_space (hs : lowS s) (hr : rows.length ≤ 61) (hp : s.cps.toList[p]? = some 32) :
    (blk turnB).sem (r7 s rows p w x y z) = .nx (r7 s rows (p + 1) (some (.str ⟨#[32]⟩)) x y z) := by
  have c1 := sg_f (s := s) (rows := rows) (p := p) (c := 32) (x := x) (y := y) (z := z) (by decide) 40 (by decide) "(" (by decide +kernel) (by decide)
  have c2 := sg_f (s := s) (rows := rows) (p := p) (c := 32) (x := x) (y := y) (z := z) (by decide) 41 (by decide) ")" (by decide +kernel) (by decide)
  have c3 := sg_cmp (s := s) (rows := rows) (p := p) (c := 32) (x := x) (y := y) (z := z) (by decide) 32 (by decide) " " (by decide +kernel)
  refine (b_nx (t_sign hs hp)).trans ((b_nx ((i_f c1).trans ((b_nx ((i_f c2).trans ((b_nx ((i_t c3).trans t_next)).trans b_nil))).trans b_nil))).trans (t_tail.trans (if_neg (by omega))))
theorem t_read (sg : Option T) {b : Bool} {t : T} {q : Int} (him : t.imm = true) (hr : φ_read_one [.str s, .int p] = .ok (.tup [.bl b, t, .int q]) [some (.str s), some (.int p)]) :
    (sSet (gT [5, 6, 2]) (eCall F_read_one (xs [(eVar 0), (eVar 2)]))).sem (r7 s rows p sg x y z) = .nx [some (.str s), some (.lst (rowsL rows)), some (.int q), sg, x, some (.bl b), some t] := by
  have cl : (eCall F_read_one (xs [(eVar 0), (eVar 2)])).sem (r7 s rows p sg x y z) = .ok (.v (.tup [.bl b, t, .int q])) (r7 s rows p sg x y z) false :=
    e_call (ρ1 := r7 s rows p sg x y z) (τ := false) (os := [.v (.str s), .v (.int p)]) (ts := [.str s, .int p]) rfl rfl rfl rfl hr rfl
  refine s_set cl ?_
  show (if T.imms [.bl b, t, .int q] = true then _ else none) = _
  rw [if_pos (by simp [T.imms, T.imm, him])]
  rfl
theorem turn_bad (hs : lowS s) (hp : s.cps.toList[p]? = some c) (h40 : c ≠ 40) (h41 : c ≠ 41) (h32 : c ≠ 32) {t : T} {q : Int} (him : t.imm = true) (hr : φ_read_one [.str s, .int p] = .ok (.tup [.bl false, t, .int q]) [some (.str s), some (.int p)]) :
    ∃ ρ, (blk turnB).sem (r7 s rows p w x y z) = .ret .non ρ := by
  have hc := low_at hs hp
  have c1 := sg_f (s := s) (rows := rows) (p := p) (x := x) (y := y) (z := z) hc 40 (by decide) "(" (by decide +kernel) h40
  have c2 := sg_f (s := s) (rows := rows) (p := p) (x := x) (y := y) (z := z) hc 41 (by decide) ")" (by decide +kernel) h41
  have c3 := sg_f (s := s) (rows := rows) (p := p) (x := x) (y := y) (z := z) hc 32 (by decide) " " (by decide +kernel) h32
  have c4 : (bNot (bTruth (eVar 5))).sem [some (.str s), some (.lst (rowsL rows)), some (.int q), some (.str ⟨#[c]⟩), x, some (.bl false), some t] = .ok true [some (.str s), some (.lst (rowsL rows)), some (.int q), some (.str ⟨#[c]⟩), x, some (.bl false), some t] false := rfl
  exact ⟨_, (b_nx (t_sign hs hp)).trans (b_ret ((i_f c1).trans (b_ret ((i_f c2).trans (b_ret ((i_f c3).trans ((b_nx (t_read _ him hr)).trans (b_ret ((i_t c4).trans (b_ret (s_ret rfl)))))))))))⟩
theorem turn_word {pre : List (List T)} {row : List T} (hs : lowS s) (hp : s.cps.toList[p]? = some c) (h40 : c ≠ 40) (h41 : c ≠ 41) (h32 : c ≠ 32) {t : T} {q : Nat} (him : t.imm = true) (hr : φ_read_one [.str s, .int p] = .ok (.tup [.bl true, t, .int q]) [some (.str s), some (.int p)])
    (hl : row.length < sizeLine) (hn : pre.length < 61) :
    (blk turnB).sem (r7 s (pre ++ [row]) p w x y z) = .nx (r7 s (pre ++ [row ++ [t]]) q (some (.str ⟨#[c]⟩)) x (some (.bl true)) (some t)) := by
  have hc := low_at hs hp
  have c1 := sg_f (s := s) (rows := pre ++ [row]) (p := p) (x := x) (y := y) (z := z) hc 40 (by decide) "(" (by decide +kernel) h40
  have c2 := sg_f (s := s) (rows := pre ++ [row]) (p := p) (x := x) (y := y) (z := z) hc 41 (by decide) ")" (by decide +kernel) h41
  have c3 := sg_f (s := s) (rows := pre ++ [row]) (p := p) (x := x) (y := y) (z := z) hc 32 (by decide) " " (by decide +kernel) h32
  have c4 : (bNot (bTruth (eVar 5))).sem (r7 s (pre ++ [row]) q (some (.str ⟨#[c]⟩)) x (some (.bl true)) (some t)) = .ok false (r7 s (pre ++ [row]) q (some (.str ⟨#[c]⟩)) x (some (.bl true)) (some t)) false := rfl
  have v6 : (eVar 6).sem (r7 s (pre ++ [row]) q (some (.str ⟨#[c]⟩)) x (some (.bl true)) (some t)) = .ok (.v t) (r7 s (pre ++ [row]) q (some (.str ⟨#[c]⟩)) x (some (.bl true)) (some t)) false := v_imm rfl him
  refine (b_nx (t_sign hs hp)).trans ((b_nx ((i_f c1).trans ((b_nx ((i_f c2).trans ((b_nx ((i_f c3).trans ((b_nx (t_read _ him hr)).trans ((b_nx ((i_f c4).trans rfl)).trans ((b_nx (t_put v6 hl)).trans b_nil))))).trans b_nil))).trans b_nil))).trans (t_tail.trans (if_neg ?_)))
  rw [List.length_append]
  simp
  omega
end
end K83
set_option Elab.async false
set_option linter.all false
set_option maxRecDepth 100000
set_option maxHeartbeats 400000
/-! k83: read_parts: what it may give. -/
namespace K83
open PySem L2 Pv PySem.NumText
/-! ### what a word may give -/
theorem dg_len_lt {n k : Nat} (h : n < 10 ^ k) (hk : 0 < k) : (dg n).length ≤ k := by
  cases k with
  | zero => omega
  | succ k => exact dg_len k n h
theorem digitsVal_lt' {cs : List Nat} (h : ∀ c ∈ cs, 48 ≤ c ∧ c ≤ 57) : digitsVal cs < 10 ^ cs.length := by
  have := dval_lt cs 0 h
  rw [Nat.zero_add, Nat.one_mul] at this
  exact this
theorem word_short {s : Str} {n : Int} (hw : ∀ c ∈ s.cps.toList, isw c = true) (hb : badW s.cps.toList = false) (hn : PySem.intText? s = some n) : (wInt n).length ≤ s.cps.toList.length := by
  unfold badW at hb
  simp only [Bool.or_eq_false_iff, decide_eq_false_iff_not] at hb
  obtain ⟨h1, h2, h3⟩ := hb
  have hl := len_list s
  by_cases t : s.cps.toList.take 1 = [45]
  · have e : s.cps.toList = 45 :: s.cps.toList.drop 1 := by
      conv => lhs; rw [← List.take_append_drop 1 s.cps.toList, t]
      rfl
    unfold bodyL at h1 h2 h3
    rw [if_pos t] at h1 h2 h3
    have al : AllDigits (s.cps.toList.drop 1) := fun c hc => isw_dig (hw c (List.mem_of_mem_drop hc)) fun z => h2 (z ▸ hc)
    have hne : s.cps.toList.drop 1 ≠ [] := fun z => by rw [z] at h1; cases h1
    have hlen := congrArg List.length e
    rw [List.length_cons] at hlen
    rw [intText_neg e al hne (by omega)] at hn
    cases hn
    have hp : 0 < (s.cps.toList.drop 1).length := List.length_pos_iff.mpr hne
    have lt := dg_len_lt (digitsVal_lt' al) hp
    rcases wInt_cases (-((digitsVal (s.cps.toList.drop 1) : Nat) : Int)) with ⟨_, e2⟩ | ⟨_, e2⟩
    · rw [e2, Int.natAbs_neg, Int.natAbs_natCast]; omega
    · rw [e2, Int.natAbs_neg, Int.natAbs_natCast, List.length_cons]; omega
  · unfold bodyL at h1 h2 h3
    rw [if_neg t] at h1 h2 h3
    have al : AllDigits s.cps.toList := fun c hc => isw_dig (hw c hc) fun z => h2 (z ▸ hc)
    have hne : s.cps.toList ≠ [] := fun z => by rw [z] at h1; cases h1
    rw [intText_digits al hne (by omega)] at hn
    cases hn
    rw [wInt_nat]
    exact dg_len_lt (digitsVal_lt' al) (List.length_pos_iff.mpr hne)
/-- a leaf of the written length w -/
def Leaf (t : T) (w : Nat) : Prop := t.imm = true ∧ (∀ k, Ok k t) ∧ (W t).length ≤ w
theorem low_sub {s : Str} (hs : lowS s) {l : List Nat} (h : ∀ c ∈ l, c ∈ s.cps.toList) (hl : l.length ≤ s.cps.toList.length) : lowS (tx l) := by
  refine ⟨fun c hc => hs.1 c (h c (by simpa using hc)), ?_⟩
  show l.toArray.size ≤ 400000
  have := hs.2
  have := len_list s
  rw [List.size_toArray]; omega
theorem mem_tw {p : Nat → Bool} {l : List Nat} {k c : Nat} (h : c ∈ (l.drop k).takeWhile p) : c ∈ l := List.mem_of_mem_drop ((List.takeWhile_sublist _).mem h)
theorem read_ok {s : Str} (hs : lowS s) {p c : Nat} (hp : s.cps.toList[p]? = some c) :
    (∃ t q, T.imm t = true ∧ φ_read_one [.str s, .int p] = .ok (.tup [.bl false, t, .int q]) [some (.str s), some (.int p)]) ∨
    ∃ t, ∃ q : Nat, p < q ∧ q ≤ s.cps.toList.length ∧ Leaf t (q - p) ∧ φ_read_one [.str s, .int p] = .ok (.tup [.bl true, t, .int q]) [some (.str s), some (.int p)] := by
  obtain ⟨hlt, hp'⟩ := List.getElem?_eq_some_iff.mp hp
  by_cases hc : c = 34
  · subst hc
    have r := read_str hs hp
    have hd : (s.cps.toList.drop (p + 1)).length = s.cps.toList.length - (p + 1) := List.length_drop
    have hle : (qb s.cps.toList (p + 1)).length ≤ (s.cps.toList.drop (p + 1)).length := (List.takeWhile_sublist _).length_le
    split at r
    · exact .inl ⟨.non, _, rfl, r⟩
    · rename_i n
      cases ha : (qb s.cps.toList (p + 1)).all okc with
      | false => rw [ha] at r; exact .inl ⟨.str _, _, rfl, r⟩
      | true =>
        rw [ha] at r
        refine .inr ⟨.str _, _, by omega, by omega, ⟨rfl, fun k => ?_, ?_⟩, r⟩
        · simp only [Ok, okStr, Bool.and_eq_true, decide_eq_true_eq]
          refine ⟨?_, ?_⟩
          · show (qb s.cps.toList (p + 1)).toArray.toList.all _ = true
            rw [List.toList_toArray, List.all_eq_true]
            intro x hx
            have h1 := List.all_eq_true.mp ha x hx
            have h2 : ne34 x = true := List.all_eq_true.mp (List.all_takeWhile (p := ne34) (l := s.cps.toList.drop (p + 1))) x hx
            unfold ne34 at h2
            rw [h1, h2]; rfl
          · show (qb s.cps.toList (p + 1)).toArray.size ≤ 6400
            rw [List.size_toArray]; omega
        · simp only [W, List.length_cons, List.length_append, List.length_nil]
          rw [List.toList_toArray]
          omega
  · have hle : (wd s.cps.toList p).length ≤ (s.cps.toList.drop p).length := (List.takeWhile_sublist _).length_le
    have hd : (s.cps.toList.drop p).length = s.cps.toList.length - p := List.length_drop
    have et : (tx (wd s.cps.toList p)).cps.toList = wd s.cps.toList p := List.toList_toArray
    have hw : ∀ c ∈ (tx (wd s.cps.toList p)).cps.toList, isw c = true := by rw [et]; exact wd_all _ _
    have lo : lowS (tx (wd s.cps.toList p)) := low_sub hs (fun c hc => mem_tw hc) (by omega)
    rcases number_in_ok lo hw with ⟨h, r⟩ | ⟨_, _, r⟩ | ⟨h, hb, n, q1, q2, r⟩
    · have rr := read_num hs hp hc (b := true) (t := .non) rfl r
      rw [et] at h
      have h1 : (wd s.cps.toList p).length = 1 := by rw [h]; rfl
      exact .inr ⟨.non, _, by omega, by omega, ⟨rfl, fun k => by cases k <;> exact True.intro, by simp only [W, List.length_cons, List.length_nil]; omega⟩, rr⟩
    · exact .inl ⟨.non, _, rfl, read_num hs hp hc (b := false) (t := .non) rfl r⟩
    · have rr := read_num hs hp hc (b := true) (t := .int n) rfl r
      have ws := word_short hw hb q1
      rw [et] at hb ws
      have hne : wd s.cps.toList p ≠ [] := fun z => by rw [z] at hb; cases hb
      have := List.length_pos_iff.mpr hne
      exact .inr ⟨.int n, _, by omega, by omega, ⟨rfl, fun k => by cases k <;> simpa only [Ok] using q2, by simp only [W]; omega⟩, rr⟩
end K83
set_option Elab.async false
set_option linter.all false
set_option maxRecDepth 100000
set_option maxHeartbeats 400000
/-! k83: read_parts at any text. -/
namespace K83
open PySem L2 Pv
mutual
theorem ok_imm : ∀ (t : T) (k : Nat), Ok k t → t.imm = true
  | .non, _, _ => rfl
  | .bl _, _, _ => rfl
  | .int _, _, _ => rfl
  | .str _, _, _ => rfl
  | .fro _, _, _ => rfl
  | .lst _, k, h => by cases k <;> simp only [Ok] at h
  | .tup ts, 0, h => by simp only [Ok] at h
  | .tup ts, k + 1, h => by
    simp only [Ok] at h
    exact oks_imm ts k h
theorem oks_imm : ∀ (ts : List T) (k : Nat), Oks k ts → T.imms ts = true
  | [], _, _ => rfl
  | t :: ts, k, h => by
    simp only [Oks] at h
    simp only [T.imms, Bool.and_eq_true]
    exact ⟨ok_imm t k h.1, oks_imm ts k h.2⟩
end
theorem oks_app : ∀ {a b : List T} {k : Nat}, Oks k a → Oks k b → Oks k (a ++ b)
  | [], _, _, _, h => h
  | t :: a, b, k, h, h2 => by
    simp only [Oks, List.cons_append] at h ⊢
    exact ⟨h.1, oks_app h.2 h2⟩
theorem oks_one {t : T} {k : Nat} (h : Ok k t) : Oks k [t] := by simp only [Oks]; exact ⟨h, trivial⟩
/-- the written length of a row -/
def wsum : List T → Nat
  | [] => 0
  | t :: ts => (W t).length + 1 + wsum ts
theorem wsum_app : ∀ (a b : List T), wsum (a ++ b) = wsum a + wsum b
  | [], b => by simp [wsum]
  | t :: a, b => by simp only [List.cons_append, wsum, wsum_app a b]; omega
theorem len_wsum : ∀ (a : List T), a.length ≤ wsum a
  | [] => Nat.le_refl _
  | t :: a => by have := len_wsum a; simp only [List.length_cons, wsum]; omega
theorem Wr_len : ∀ (a : List T), (Wr a).length = wsum a
  | [] => rfl
  | t :: a => by have := Wr_len a; simp only [Wr, wsum, List.length_cons, List.length_append]; omega
theorem Ws_len : ∀ (a : List T), (Ws a).length ≤ wsum a
  | [] => Nat.le_refl _
  | t :: a => by have := Wr_len a; simp only [Ws, wsum, List.length_append]; omega
def tot : List (List T) → Nat
  | [] => 0
  | r :: rs => wsum r + tot rs
theorem tot_app : ∀ (a b : List (List T)), tot (a ++ b) = tot a + tot b
  | [], b => by simp [tot]
  | t :: a, b => by simp only [List.cons_append, tot, tot_app a b]; omega
structure RInv (rows : List (List T)) (p : Nat) : Prop where
  len : rows.length ≤ 61
  pos : 0 < rows.length
  ok : ∀ (i : Nat) (row : List T), rows[i]? = some row → Oks (60 - i) row
  sum : tot rows + 2 * rows.length ≤ 2 * p + 2
theorem get_mid (pre : List (List T)) (row : List T) : (pre ++ [row])[pre.length]? = some row := by simp
theorem get_pre {pre : List (List T)} {row r : List T} {i : Nat} (h : (pre ++ [row])[i]? = some r) : (i < pre.length ∧ pre[i]? = some r) ∨ (i = pre.length ∧ r = row) := by
  by_cases c : i < pre.length
  · rw [List.getElem?_append_left c] at h; exact .inl ⟨c, h⟩
  · rw [List.getElem?_append_right (by omega)] at h
    by_cases d : i = pre.length
    · subst d
      simp at h
      exact .inr ⟨rfl, h.symm⟩
    · rw [List.getElem?_eq_none (by simp; omega)] at h; cases h
theorem rinv_row {pre : List (List T)} {row : List T} {p : Nat} (h : RInv (pre ++ [row]) p) : Oks (60 - pre.length) row ∧ row.length ≤ 2 * p + 2 := by
  refine ⟨h.ok _ _ (get_mid pre row), ?_⟩
  have := h.sum
  rw [tot_app] at this
  simp only [tot] at this
  have := len_wsum row
  omega
theorem rinv_open {rows : List (List T)} {p : Nat} (h : RInv rows p) (hl : rows.length + 1 ≤ 61) : RInv (rows ++ [[]]) (p + 1) := by
  refine ⟨by simpa using hl, by simp, fun i row e => ?_, ?_⟩
  · rcases get_pre e with ⟨_, e⟩ | ⟨_, rfl⟩
    · exact h.ok i row e
    · simp only [Oks]
  · have := h.sum
    rw [tot_app, List.length_append]
    simp only [tot, wsum, List.length_cons, List.length_nil]
    omega
theorem rinv_put {pre : List (List T)} {row : List T} {p q : Nat} {t : T} (h : RInv (pre ++ [row]) p) (ht : Ok (60 - pre.length) t) (hw : (W t).length + 1 + 2 * p ≤ 2 * q) : RInv (pre ++ [row ++ [t]]) q := by
  obtain ⟨h1, h2, h3, h4⟩ := h
  refine ⟨by simpa using h1, by simp, fun i r e => ?_, ?_⟩
  · rcases get_pre e with ⟨c, e⟩ | ⟨rfl, rfl⟩
    · exact h3 i r (by rw [List.getElem?_append_left c]; exact e)
    · exact oks_app (h3 _ _ (get_mid pre row)) (oks_one ht)
  · rw [tot_app, List.length_append] at h4 ⊢
    simp only [tot, List.length_cons, List.length_nil] at h4 ⊢
    rw [wsum_app]
    simp only [wsum]
    omega
theorem rinv_close {pre : List (List T)} {r0 row : List T} {p : Nat} (h : RInv ((pre ++ [r0]) ++ [row]) p) : RInv (pre ++ [r0 ++ [.tup row]]) (p + 1) := by
  obtain ⟨h1, h2, h3, h4⟩ := h
  have hl : pre.length + 2 ≤ 61 := by simpa using h1
  refine ⟨by simp; omega, by simp, fun i r e => ?_, ?_⟩
  · rcases get_pre e with ⟨c, e⟩ | ⟨rfl, rfl⟩
    · exact h3 i r (by rw [List.getElem?_append_left (by simp; omega), List.getElem?_append_left c]; exact e)
    · have o1 := h3 pre.length r0 (by rw [List.getElem?_append_left (by simp)]; exact get_mid pre r0)
      have o2 := h3 (pre.length + 1) row (by have := get_mid (pre ++ [r0]) row; rw [List.length_append] at this; exact this)
      refine oks_app o1 (oks_one ?_)
      rw [show 60 - pre.length = (60 - (pre.length + 1)) + 1 by omega]
      simp only [Ok]
      exact o2
  · have := Ws_len row
    rw [tot_app, tot_app, List.length_append, List.length_append] at h4
    rw [tot_app, List.length_append]
    simp only [tot, List.length_cons, List.length_nil] at h4 ⊢
    rw [wsum_app]
    simp only [wsum, W, List.length_cons, List.length_append, List.length_nil]
    omega
theorem rp_cond {s : Str} (hs : lowS s) {rows : List (List T)} {p : Nat} {w x y z : Option T} : (bCmp .Lt (eVar 2) (eLen (eVar 0))).sem (r7 s rows p w x y z) = .ok (decide (p < s.cps.toList.length)) (r7 s rows p w x y z) false := by
  have el : (eLen (eVar 0)).sem (r7 s rows p w x y z) = .ok (.v (.int s.length)) (r7 s rows p w x y z) false := e_len_s (o := .v (.str s)) rfl rfl rfl (low_line hs)
  refine b_cmp (τ1 := false) (o1 := .v (.int p)) (x := .int p) rfl el rfl rfl rfl rfl ?_
  show some (decide ((p : Int) < (s.length : Int))) = _
  rw [len_list]
  congr 1
  exact decide_eq_decide.mpr (by omega)
abbrev rpW (n : Nat) (ρ : Rho) : RS := whileF n (bCmp .Lt (eVar 2) (eLen (eVar 0))).sem (blk turnB).sem ρ
theorem loopC {s : Str} (hs : lowS s) : ∀ (n p : Nat) (rows : List (List T)) (w x y z : Option T), s.cps.toList.length - p < n → p ≤ s.cps.toList.length → RInv rows p →
    (∃ ρ, rpW n (r7 s rows p w x y z) = .ret .non ρ) ∨ ∃ rows' w' x' y' z', rpW n (r7 s rows p w x y z) = .nx (r7 s rows' s.cps.toList.length w' x' y' z') ∧ RInv rows' s.cps.toList.length
  | 0, p, rows, w, x, y, z, hn, hp, I => by omega
  | n + 1, p, rows, w, x, y, z, hn, hp, I => by
    have c := rp_cond hs (rows := rows) (p := p) (w := w) (x := x) (y := y) (z := z)
    by_cases hlt : p < s.cps.toList.length
    case neg =>
      rw [decide_eq_false hlt] at c
      have e : p = s.cps.toList.length := by omega
      refine .inr ⟨rows, w, x, y, z, ?_, e ▸ I⟩
      rw [← e]
      exact w_end c
    rw [decide_eq_true hlt] at c
    generalize hsg : s.cps.toList[p] = sg
    have hp' : s.cps.toList[p]? = some sg := by rw [List.getElem?_eq_getElem hlt, hsg]
    have hlen := hs.2
    rw [← len_list] at hlen
    have big : ∀ m, m ≤ 2 * 400000 + 2 → m < sizeLine := fun m h => by rw [sizeLine_eq]; omega
    rcases List.eq_nil_or_concat rows with rfl | ⟨pre, row, rfl⟩
    · exact absurd I.pos (by simp)
    rw [List.concat_eq_append] at I c ⊢
    have hl : pre.length < 61 := by have := I.len; simp at this; omega
    obtain ⟨okr, lenr⟩ := rinv_row I
    by_cases h40 : sg = 40
    · subst h40
      have t := turn_open hs (rows := pre ++ [row]) I.len hp' (w := w) (x := x) (y := y) (z := z)
      split at t
      · exact .inl ⟨_, w_ret c t⟩
      · rename_i nn
        rcases loopC hs n (p + 1) _ (some (.str ⟨#[40]⟩)) x y z (by omega) (by omega) (rinv_open I (by omega)) with ⟨ρ, e⟩ | ⟨a1, a2, a3, a4, a5, e, i⟩
        · exact .inl ⟨ρ, (w_nx c t).trans e⟩
        · exact .inr ⟨a1, a2, a3, a4, a5, (w_nx c t).trans e, i⟩
    by_cases h41 : sg = 41
    · subst h41
      rcases List.eq_nil_or_concat pre with rfl | ⟨pre, r0, rfl⟩
      · obtain ⟨ρ, t⟩ := turn_close0 hs (row := row) hp' (w := w) (x := x) (y := y) (z := z)
        exact .inl ⟨ρ, w_ret c t⟩
      · rw [List.concat_eq_append] at I c ⊢
        have l0 : r0.length ≤ 2 * p + 2 := by
          have := I.sum
          rw [tot_app, tot_app] at this
          simp only [tot] at this
          have := len_wsum r0
          omega
        have t := turn_close hs (pre := pre) (r0 := r0) (row := row) (oks_imm _ _ okr) (big _ (by omega)) hp' (by rw [List.concat_eq_append] at hl; simp at hl; omega) (w := w) (x := x) (y := y) (z := z)
        rcases loopC hs n (p + 1) _ (some (.str ⟨#[41]⟩)) (some (.lst row)) y z (by omega) (by omega) (rinv_close I) with ⟨ρ, e⟩ | ⟨a1, a2, a3, a4, a5, e, i⟩
        · exact .inl ⟨ρ, (w_nx c t).trans e⟩
        · exact .inr ⟨a1, a2, a3, a4, a5, (w_nx c t).trans e, i⟩
    by_cases h32 : sg = 32
    · subst h32
      have t := turn_space hs (rows := pre ++ [row]) I.len hp' (w := w) (x := x) (y := y) (z := z)
      have I' : RInv (pre ++ [row]) (p + 1) := ⟨I.len, I.pos, I.ok, by have := I.sum; omega⟩
      rcases loopC hs n (p + 1) _ (some (.str ⟨#[32]⟩)) x y z (by omega) (by omega) I' with ⟨ρ, e⟩ | ⟨a1, a2, a3, a4, a5, e, i⟩
      · exact .inl ⟨ρ, (w_nx c t).trans e⟩
      · exact .inr ⟨a1, a2, a3, a4, a5, (w_nx c t).trans e, i⟩
    rcases read_ok hs hp' with ⟨t, q, him, r⟩ | ⟨t, q, g1, g2, ⟨him, hk, hw⟩, r⟩
    · obtain ⟨ρ, tb⟩ := turn_bad hs (rows := pre ++ [row]) hp' h40 h41 h32 him r (w := w) (x := x) (y := y) (z := z)
      exact .inl ⟨ρ, w_ret c tb⟩
    · have tw := turn_word hs (pre := pre) (row := row) hp' h40 h41 h32 him r (big _ (by omega)) hl (w := w) (x := x) (y := y) (z := z)
      rcases loopC hs n q _ _ x _ _ (by omega) g2 (rinv_put I (hk _) (by omega)) with ⟨ρ, e⟩ | ⟨a1, a2, a3, a4, a5, e, i⟩
      · exact .inl ⟨ρ, (w_nx c tw).trans e⟩
      · exact .inr ⟨a1, a2, a3, a4, a5, (w_nx c tw).trans e, i⟩
end K83
set_option Elab.async false
set_option linter.all false
set_option maxRecDepth 100000
set_option maxHeartbeats 400000
/-! k83: read_parts: its end, and what it gives at a written value. -/
namespace K83
open PySem L2 Pv PySem.NumText
theorem s_ret_p {a : Ex} {ρ ρ1 : Rho} {i : Nat} {path : List Nat} {t : T} {τ : Bool} (h : a.sem ρ = .ok (.p i path) ρ1 τ) (g : getO ρ1 (.p i path) = some t) : (sRet a).sem ρ = .ret t (ρ1.set i none) := by
  show retS a.sem ρ = _
  unfold retS
  rw [h]; simp only; rw [g]
theorem rp_end {s : Str} {rows : List (List T)} {p : Nat} {w x y z : Option T} : (rows.length = 1 ∧ ∃ ts, rows = [ts] ∧ (blk [sRet (eIf (bCmp .Eq (eLen (eVar 1)) (eInt 1)) (eIx (eVar 1) (eInt 0)) eNon)]).sem (r7 s rows p w x y z) = .ret (.lst ts) [some (.str s), none, some (.int p), w, x, y, z]) ∨
    (rows.length ≠ 1 ∧ (blk [sRet (eIf (bCmp .Eq (eLen (eVar 1)) (eInt 1)) (eIx (eVar 1) (eInt 0)) eNon)]).sem (r7 s rows p w x y z) = .ret .non (r7 s rows p w x y z)) := by
  have c : (bCmp .Eq (eLen (eVar 1)) (eInt 1)).sem (r7 s rows p w x y z) = .ok (((rowsL rows).length : Int) == 1) (r7 s rows p w x y z) false := rfl
  have hl : (rowsL rows).length = rows.length := List.length_map _
  by_cases h : rows.length = 1
  · refine .inl ⟨h, ?_⟩
    obtain ⟨ts, rfl⟩ := List.length_eq_one_iff.mp h
    refine ⟨ts, rfl, b_ret ?_⟩
    exact s_ret_p (e_if (τ2 := false) (o := .p 1 [0]) (ρ2 := r7 s [ts] p w x y z) c rfl) rfl
  · refine .inr ⟨h, b_ret (s_ret (e_if (τ2 := false) (ρ2 := r7 s rows p w x y z) c ?_))⟩
    rw [if_neg (by rw [hl]; simpa using fun z => h (by omega))]
    rfl
theorem rp_run {s : Str} {r : RS} (h : rpW FUEL (r7 s [[]] 0 none none none none) = r) : (∀ ρ, r = .nx ρ → ∀ t ρ', (blk [sRet (eIf (bCmp .Eq (eLen (eVar 1)) (eInt 1)) (eIx (eVar 1) (eInt 0)) eNon)]).sem ρ = .ret t ρ' → φ_read_parts [.str s] = .ok t [some (.str s)]) ∧ (∀ t ρ, r = .ret t ρ → φ_read_parts [.str s] = .ok t [some (.str s)]) := by
  have s1 : (sSet (gN 1) (eLst (xs [(eLst (xs []))]))).sem [some (.str s), none, none, none, none, none, none] = .nx [some (.str s), some (.lst [.lst []]), none, none, none, none, none] := s_set (ρ1 := [some (.str s), none, none, none, none, none, none]) (t := .lst [.lst []]) (τ := false) rfl rfl
  have s2 : (sSet (gN 2) (eInt 0)).sem [some (.str s), some (.lst [.lst []]), none, none, none, none, none] = .nx (r7 s [[]] 0 none none none none) := s_set (ρ1 := [some (.str s), some (.lst [.lst []]), none, none, none, none, none]) (t := .int 0) (τ := false) rfl rfl
  refine ⟨fun ρ e t ρ' e2 => ?_, fun t ρ e => ?_⟩
  · subst e
    exact fn_ret (b := b_read_parts) rfl ((congrFun (congrArg Bl.sem read_parts_is) _).trans ((b_nx s1).trans ((b_nx s2).trans ((b_nx (s_while.trans h)).trans e2)))) rfl rfl
  · subst e
    exact fn_ret (b := b_read_parts) rfl ((congrFun (congrArg Bl.sem read_parts_is) _).trans ((b_nx s1).trans ((b_nx s2).trans (b_ret (s_while.trans h))))) rfl rfl
theorem read_parts_any {s : Str} (hs : lowS s) : φ_read_parts [.str s] = .ok .non [some (.str s)] ∨ ∃ ts, φ_read_parts [.str s] = .ok (.lst ts) [some (.str s)] ∧ Oks 60 ts ∧ wsum ts ≤ 2 * s.cps.toList.length := by
  have hl : s.cps.toList.length - 0 < FUEL := by have := fuel_ok; have := hs.2; have := len_list s; omega
  have I0 : RInv [[]] 0 := ⟨by simp, by simp, fun i r e => by
    cases i with
    | zero => cases e; simp only [Oks]
    | succ i => simp at e, by simp [tot, wsum]⟩
  rcases loopC hs FUEL 0 [[]] none none none none hl (by omega) I0 with ⟨ρ, e⟩ | ⟨rows, w, x, y, z, e, I⟩
  · exact .inl ((rp_run e).2 _ _ rfl)
  · rcases rp_end (s := s) (rows := rows) (p := s.cps.toList.length) (w := w) (x := x) (y := y) (z := z) with ⟨h1, ts, rfl, e2⟩ | ⟨h1, e2⟩
    · refine .inr ⟨ts, (rp_run e).1 _ rfl _ _ e2, I.ok 0 ts rfl, ?_⟩
      have := I.sum
      simp only [tot, List.length_cons, List.length_nil] at this
      omega
    · exact .inl ((rp_run e).1 _ rfl _ _ e2)
/-! ### at a written value -/
theorem drop_head {l r : List Nat} {p c : Nat} (h : l.drop p = c :: r) : l[p]? = some c ∧ l.drop (p + 1) = r := by
  refine ⟨?_, ?_⟩
  · have := congrArg (fun x => x[0]?) h
    simpa using this
  · have := congrArg (List.drop 1) h
    rw [List.drop_drop] at this
    simpa using this
theorem drop_more {l a r : List Nat} {p : Nat} (h : l.drop p = a ++ r) : l.drop (p + a.length) = r := by
  have := congrArg (List.drop a.length) h
  rw [List.drop_drop] at this
  simpa using this
theorem rp_step {s : Str} (hs : lowS s) {rows : List (List T)} {p c : Nat} {w x y z : Option T} {ρ : Rho} (hp : s.cps.toList[p]? = some c) (h : (blk turnB).sem (r7 s rows p w x y z) = .nx ρ) (n : Nat) : rpW (n + 1) (r7 s rows p w x y z) = rpW n ρ := by
  have e := rp_cond hs (rows := rows) (p := p) (w := w) (x := x) (y := y) (z := z)
  rw [decide_eq_true (List.getElem?_eq_some_iff.mp hp).1] at e
  exact w_nx e h
theorem dgVal : ∀ (m : Nat), digitsVal (dg m) = m := by
  intro m
  induction m using Nat.strongRecOn with
  | _ m ih =>
    by_cases h : m < 10
    · rw [dg_one h]
      show 0 * 10 + (48 + m - 48) = m
      omega
    · rw [dg_more h]
      have := ih (m / 10) (by omega)
      unfold digitsVal at this ⊢
      rw [List.foldl_append, this]
      show m / 10 * 10 + (48 + m % 10 - 48) = m
      omega
theorem tw_all {p : Nat → Bool} {a r : List Nat} (h : ∀ c ∈ a, p c = true) (hr : ∀ c, r.head? = some c → p c = false) : (a ++ r).takeWhile p = a := by
  induction a with
  | nil =>
    cases r with
    | nil => rfl
    | cons c r => rw [List.nil_append, List.takeWhile_cons_of_neg (by rw [hr c rfl]; exact Bool.false_ne_true)]
  | cons c a ih =>
    rw [List.cons_append, List.takeWhile_cons_of_pos (h c List.mem_cons_self), ih fun x hx => h x (List.mem_cons_of_mem _ hx)]
theorem wInt_isw (i : Int) : ∀ c ∈ wInt i, isw c = true := by
  have d : ∀ c ∈ dg i.natAbs, isw c = true := fun c hc => by
    have := dg_all _ c hc
    unfold isw
    rw [decide_eq_true this.1, decide_eq_true this.2]; rfl
  intro c hc
  rcases wInt_cases i with ⟨_, e⟩ | ⟨_, e⟩
  · rw [e] at hc; exact d c hc
  · rw [e] at hc
    rcases List.mem_cons.mp hc with rfl | hc
    · rfl
    · exact d c hc
theorem dg_ne (m : Nat) : dg m ≠ [] := by
  by_cases h : m < 10
  · rw [dg_one h]; simp
  · rw [dg_more h]; simp
theorem dg_45 {m c : Nat} (h : c ∈ dg m) : c ≠ 45 := by have := dg_all m c h; omega
theorem int_read {i : Int} (h : i.natAbs < BIG) : φ_number_in [.str (tx (wInt i))] = .ok (.tup [.bl true, .int i]) [some (.str (tx (wInt i)))] := by
  have et : (tx (wInt i)).cps.toList = wInt i := List.toList_toArray
  have hl := wInt_len h
  have lo : lowS (tx (wInt i)) := ⟨fun c hc => by
    rw [et] at hc
    have := wInt_isw i c hc
    unfold isw at this
    simp only [Bool.or_eq_true, Bool.and_eq_true, decide_eq_true_eq, beq_iff_eq] at this
    omega, by show (wInt i).toArray.size ≤ _; rw [List.size_toArray]; omega⟩
  have dl := dg_len 2499 i.natAbs h
  have nn := dg_ne i.natAbs
  have bodyE : bodyL (wInt i) = dg i.natAbs := by
    unfold bodyL
    rcases wInt_cases i with ⟨_, e⟩ | ⟨_, e⟩
    · rw [e]
      rw [if_neg]
      intro z
      cases hd : dg i.natAbs with
      | nil => exact nn hd
      | cons c r =>
        rw [hd] at z
        simp at z
        exact dg_45 (m := i.natAbs) (c := c) (by rw [hd]; exact List.mem_cons_self) z
    · rw [e]; rfl
  have n45 : wInt i ≠ [45] := fun z => by
    rw [z] at bodyE
    exact nn bodyE.symm
  have nb : badW (wInt i) = false := by
    unfold badW
    rw [bodyE]
    simp only [Bool.or_eq_false_iff, decide_eq_false_iff_not]
    refine ⟨?_, fun z => dg_45 z rfl, by omega⟩
    cases hd : dg i.natAbs with
    | nil => exact absurd hd nn
    | cons c r => rfl
  have it : PySem.intText? (tx (wInt i)) = some i := by
    have al : AllDigits (dg i.natAbs) := fun c hc => dg_all _ c hc
    rcases wInt_cases i with ⟨h0, e⟩ | ⟨h0, e⟩
    · rw [intText_digits (by rw [et, e]; exact al) (by rw [et, e]; exact nn) (by rw [← len_list, et]; omega), et, e, dgVal]
      congr 1; omega
    · rw [intText_neg (et.trans e) al nn (by rw [← len_list, et]; omega), dgVal]
      congr 1; omega
  rcases number_in_ok lo (by rw [et]; exact wInt_isw i) with ⟨h1, _⟩ | ⟨_, h2, _⟩ | ⟨_, _, n, q1, _, r⟩
  · rw [et] at h1; exact absurd h1 n45
  · rw [et] at h2; rw [nb] at h2; cases h2
  · rw [it] at q1; cases q1; exact r
end K83
set_option Elab.async false
set_option linter.all false
set_option maxRecDepth 100000
set_option maxHeartbeats 400000
/-! k83: read_parts at a written value gives it back. -/
namespace K83
open PySem L2 Pv
def Lim (r : List Nat) : Prop := ∀ c, r.head? = some c → c = 32 ∨ c = 41
theorem lim_isw {r : List Nat} (h : Lim r) : ∀ c, r.head? = some c → isw c = false := fun c e => by
  rcases h c e with rfl | rfl <;> rfl
/-- the loop goes from one state to another in at most k turns -/
def Goes (s : Str) (rows : List (List T)) (p : Nat) (rows' : List (List T)) (p' k : Nat) : Prop :=
  ∀ w x y z, ∃ m w' x' y' z', m ≤ k ∧ ∀ n, rpW (n + m) (r7 s rows p w x y z) = rpW n (r7 s rows' p' w' x' y' z')
theorem goes_refl {s : Str} {rows : List (List T)} {p k : Nat} : Goes s rows p rows p k := fun w x y z => ⟨0, w, x, y, z, Nat.zero_le _, fun n => rfl⟩
theorem goes_trans {s : Str} {r1 r2 r3 : List (List T)} {p1 p2 p3 k1 k2 k : Nat} (h1 : Goes s r1 p1 r2 p2 k1) (h2 : Goes s r2 p2 r3 p3 k2) (hk : k1 + k2 ≤ k) : Goes s r1 p1 r3 p3 k := fun w x y z => by
  obtain ⟨m1, w1, x1, y1, z1, l1, e1⟩ := h1 w x y z
  obtain ⟨m2, w2, x2, y2, z2, l2, e2⟩ := h2 w1 x1 y1 z1
  refine ⟨m2 + m1, w2, x2, y2, z2, by omega, fun n => ?_⟩
  rw [← Nat.add_assoc, e1, e2]
theorem goes_one {s : Str} (hs : lowS s) {r1 r2 : List (List T)} {p1 p2 c k : Nat} (hp : s.cps.toList[p1]? = some c) (h : ∀ w x y z, ∃ w' x' y' z', (blk turnB).sem (r7 s r1 p1 w x y z) = .nx (r7 s r2 p2 w' x' y' z')) (hk : 1 ≤ k) : Goes s r1 p1 r2 p2 k := fun w x y z => by
  obtain ⟨w', x', y', z', e⟩ := h w x y z
  exact ⟨1, w', x', y', z', hk, fun n => rp_step hs hp e n⟩
theorem W_pos : ∀ (t : T) (k : Nat), Ok k t → ∃ c r, W t = c :: r ∧ c ≠ 41 ∧ c ≠ 32
  | .non, _, _ => ⟨45, [], rfl, by decide, by decide⟩
  | .int i, _, _ => by
    cases e : wInt i with
    | nil => rcases wInt_cases i with ⟨_, z⟩ | ⟨_, z⟩
             · rw [e] at z; exact absurd z.symm (dg_ne _)
             · rw [e] at z; cases z
    | cons c r =>
      have := wInt_isw i c (by rw [e]; exact List.mem_cons_self)
      unfold isw at this
      simp only [Bool.or_eq_true, Bool.and_eq_true, decide_eq_true_eq, beq_iff_eq] at this
      exact ⟨c, r, e, by omega, by omega⟩
  | .str s, _, _ => ⟨34, _, rfl, by decide, by decide⟩
  | .tup ts, _, _ => ⟨40, _, rfl, by decide, by decide⟩
  | .bl _, k, h => by cases k <;> simp only [Ok] at h
  | .lst _, k, h => by cases k <;> simp only [Ok] at h
  | .fro _, k, h => by cases k <;> simp only [Ok] at h
theorem big_of {s : Str} (hs : lowS s) {p n : Nat} (hp : p ≤ s.cps.toList.length) (h : n ≤ p) : n < sizeLine := by
  have := hs.2
  rw [← len_list] at this
  rw [sizeLine_eq]; omega
theorem p_le {l a r : List Nat} {p : Nat} (h : l.drop p = a ++ r) (ha : 0 < a.length) : p + a.length ≤ l.length := by
  have := congrArg List.length h
  rw [List.length_drop, List.length_append] at this
  omega
theorem goes_leaf {s : Str} (hs : lowS s) {p c q k : Nat} {pre : List (List T)} {row : List T} {t : T} (hp : s.cps.toList[p]? = some c) (h40 : c ≠ 40) (h41 : c ≠ 41) (h32 : c ≠ 32) (him : t.imm = true) (hr : φ_read_one [.str s, .int p] = .ok (.tup [.bl true, t, .int q]) [some (.str s), some (.int p)]) (hl : row.length ≤ p) (hn : pre.length < 61) (hk : 1 ≤ k) :
    Goes s (pre ++ [row]) p (pre ++ [row ++ [t]]) q k :=
  goes_one hs hp (fun w x y z => ⟨_, _, _, _, turn_word hs hp h40 h41 h32 him hr (big_of hs (Nat.le_of_lt (List.getElem?_eq_some_iff.mp hp).1) hl) hn⟩) hk
mutual
theorem goes_W {s : Str} (hs : lowS s) : ∀ (t : T) (k : Nat) (pre : List (List T)) (row : List T) (p : Nat) (rest : List Nat), Ok k t → pre.length + k ≤ 60 → s.cps.toList.drop p = W t ++ rest → Lim rest → row.length ≤ p → Goes s (pre ++ [row]) p (pre ++ [row ++ [t]]) (p + (W t).length) (W t).length
  | .non, k, pre, row, p, rest, _, hk, hd, hr, hl => by
    obtain ⟨hp, hd2⟩ := drop_head (c := 45) (r := rest) hd
    have ew : wd s.cps.toList p = [45] := by
      unfold wd
      rw [hd]
      exact tw_all (a := [45]) (by simp [isw]) (lim_isw hr)
    have rr : φ_number_in [.str (tx (wd s.cps.toList p))] = .ok (.tup [.bl true, .non]) [some (.str (tx (wd s.cps.toList p)))] := by
      rw [ew]
      rcases number_in_ok (s := tx [45]) ⟨by decide, by decide⟩ (by decide) with ⟨_, r⟩ | ⟨h, _⟩ | ⟨h, _⟩
      · exact r
      · exact absurd rfl h
      · exact absurd rfl h
    have r := read_num hs hp (by decide) (b := true) (t := .non) rfl rr
    rw [ew] at r
    exact goes_leaf hs hp (by decide) (by decide) (by decide) rfl r hl (by omega) (by simp [W])
  | .int i, k, pre, row, p, rest, ho, hk, hd, hr, hl => by
    have hb : i.natAbs < BIG := by cases k <;> simpa only [Ok] using ho
    obtain ⟨c, r0, ec, n41, n32⟩ := W_pos (.int i) k ho
    have ec' : wInt i = c :: r0 := ec
    have ci : isw c = true := wInt_isw i c (by rw [ec']; exact List.mem_cons_self)
    obtain ⟨hp, hd2⟩ := drop_head (c := c) (r := r0 ++ rest) (by rw [hd, ec]; rfl)
    have ew : wd s.cps.toList p = wInt i := by
      unfold wd
      rw [hd]
      exact tw_all (a := wInt i) (wInt_isw i) (lim_isw hr)
    have rr : φ_number_in [.str (tx (wd s.cps.toList p))] = .ok (.tup [.bl true, .int i]) [some (.str (tx (wd s.cps.toList p)))] := by
      rw [ew]; exact int_read hb
    have n34 : c ≠ 34 := fun z => by rw [z] at ci; cases ci
    have n40 : c ≠ 40 := fun z => by rw [z] at ci; cases ci
    have r := read_num hs hp n34 (b := true) (t := .int i) rfl rr
    rw [ew] at r
    exact goes_leaf hs hp n40 n41 n32 rfl r hl (by omega) (by rw [ec]; simp)
  | .str x, k, pre, row, p, rest, ho, hk, hd, hr, hl => by
    obtain ⟨hok, hlen⟩ := okStr_all (s := x) (by cases k <;> simpa only [Ok] using ho)
    have hd' : s.cps.toList.drop p = 34 :: (x.cps.toList ++ 34 :: rest) := by rw [hd]; simp [W]
    obtain ⟨hp, hd2⟩ := drop_head hd'
    have eq : qb s.cps.toList (p + 1) = x.cps.toList := by
      unfold qb
      rw [hd2]
      refine tw_all (fun c hc => ?_) (fun c hc => ?_)
      · have := (hok c hc).2
        simpa [ne34] using this
      · cases hc; rfl
    have r := read_str hs hp
    rw [if_neg (by rw [eq, hd2, List.length_append, List.length_cons]; omega), eq] at r
    have ex : tx x.cps.toList = x := by cases x; simp [tx]
    have ea : x.cps.toList.all okc = true := List.all_eq_true.mpr fun c hc => (hok c hc).1
    rw [ex, ea] at r
    have el : (W (.str x)).length = x.cps.toList.length + 2 := by simp [W]
    rw [el]
    exact goes_leaf hs hp (by decide) (by decide) (by decide) rfl r hl (by omega) (by omega)
  | .tup ts, 0, pre, row, p, rest, ho, hk, hd, hr, hl => by simp only [Ok] at ho
  | .tup ts, k + 1, pre, row, p, rest, ho, hk, hd, hr, hl => by
    simp only [Ok] at ho
    have hd' : s.cps.toList.drop p = 40 :: (Ws ts ++ 41 :: rest) := by rw [hd]; simp [W]
    obtain ⟨hp, hd2⟩ := drop_head hd'
    have hlt := (List.getElem?_eq_some_iff.mp hp).1
    have g1 : Goes s (pre ++ [row]) p ((pre ++ [row]) ++ [[]]) (p + 1) 1 := goes_one hs hp (fun w x y z => by
      have t := turn_open hs (rows := pre ++ [row]) (by simp; omega) hp (w := w) (x := x) (y := y) (z := z)
      rw [if_neg (by simp; omega)] at t
      exact ⟨_, _, _, _, t⟩) (Nat.le_refl _)
    have g2 := goes_Ws hs ts k (pre ++ [row]) (p + 1) rest ho (by simp; omega) hd2
    have hd3 := drop_more hd2
    obtain ⟨hp3, _⟩ := drop_head hd3
    have hlt3 := (List.getElem?_eq_some_iff.mp hp3).1
    have g3 : Goes s ((pre ++ [row]) ++ [ts]) (p + 1 + (Ws ts).length) (pre ++ [row ++ [.tup ts]]) (p + 1 + (Ws ts).length + 1) 1 := goes_one hs hp3 (fun w x y z => ⟨_, _, _, _, turn_close hs (oks_imm _ _ ho) (big_of hs (Nat.le_of_lt hlt) hl) hp3 (by omega)⟩) (Nat.le_refl _)
    have el : (W (.tup ts)).length = (Ws ts).length + 2 := by simp [W]
    rw [el]
    have g := goes_trans (goes_trans g1 g2 (Nat.le_refl _)) g3 (k := (Ws ts).length + 2) (by omega)
    rw [show p + 1 + (Ws ts).length + 1 = p + ((Ws ts).length + 2) by omega] at g
    exact g
  | .bl _, k, pre, row, p, rest, ho, hk, hd, hr, hl => by cases k <;> simp only [Ok] at ho
  | .lst _, k, pre, row, p, rest, ho, hk, hd, hr, hl => by cases k <;> simp only [Ok] at ho
  | .fro _, k, pre, row, p, rest, ho, hk, hd, hr, hl => by cases k <;> simp only [Ok] at ho
theorem goes_Ws {s : Str} (hs : lowS s) : ∀ (ts : List T) (k : Nat) (pre : List (List T)) (p : Nat) (rest : List Nat), Oks k ts → pre.length + k ≤ 60 → s.cps.toList.drop p = Ws ts ++ 41 :: rest → Goes s (pre ++ [[]]) p (pre ++ [ts]) (p + (Ws ts).length) (Ws ts).length
  | [], k, pre, p, rest, ho, hk, hd => goes_refl
  | t :: ts, k, pre, p, rest, ho, hk, hd => by
    simp only [Oks] at ho
    simp only [Ws, List.append_assoc] at hd
    have g1 := goes_W hs t k pre [] p (Wr ts ++ 41 :: rest) ho.1 hk hd (fun c e => by
      cases ts with
      | nil => simp [Wr] at e; exact .inr e.symm
      | cons a b => simp [Wr] at e; exact .inl e.symm) (Nat.zero_le _)
    have hd2 := drop_more hd
    have g2 := goes_Wr hs ts k pre [t] (p + (W t).length) rest ho.2 hk hd2 (by
      obtain ⟨c, r, e, _⟩ := W_pos t k ho.1
      rw [e]; simp; omega)
    have g := goes_trans g1 g2 (k := (Ws (t :: ts)).length) (by simp [Ws])
    rw [show p + (Ws (t :: ts)).length = p + (W t).length + (Wr ts).length by simp [Ws]; omega]
    exact g
theorem goes_Wr {s : Str} (hs : lowS s) : ∀ (ts : List T) (k : Nat) (pre : List (List T)) (row : List T) (p : Nat) (rest : List Nat), Oks k ts → pre.length + k ≤ 60 → s.cps.toList.drop p = Wr ts ++ 41 :: rest → row.length ≤ p → Goes s (pre ++ [row]) p (pre ++ [row ++ ts]) (p + (Wr ts).length) (Wr ts).length
  | [], k, pre, row, p, rest, ho, hk, hd, hl => by rw [List.append_nil]; exact goes_refl
  | t :: ts, k, pre, row, p, rest, ho, hk, hd, hl => by
    simp only [Oks] at ho
    have hd' : s.cps.toList.drop p = 32 :: (W t ++ (Wr ts ++ 41 :: rest)) := by rw [hd]; simp [Wr]
    obtain ⟨hp, hd2⟩ := drop_head hd'
    have g0 : Goes s (pre ++ [row]) p (pre ++ [row]) (p + 1) 1 := goes_one hs hp (fun w x y z => ⟨_, _, _, _, turn_space hs (by simp; omega) hp⟩) (Nat.le_refl _)
    have g1 := goes_W hs t k pre row (p + 1) (Wr ts ++ 41 :: rest) ho.1 hk hd2 (fun c e => by
      cases ts with
      | nil => simp [Wr] at e; exact .inr e.symm
      | cons a b => simp [Wr] at e; exact .inl e.symm) (by omega)
    have hd3 := drop_more hd2
    have g2 := goes_Wr hs ts k pre (row ++ [t]) (p + 1 + (W t).length) rest ho.2 hk hd3 (by
      obtain ⟨c, r, e, _⟩ := W_pos t k ho.1
      rw [e]; simp; omega)
    have g := goes_trans (goes_trans g0 g1 (Nat.le_refl _)) g2 (k := (Wr (t :: ts)).length) (by simp [Wr]; omega)
    rw [show p + (Wr (t :: ts)).length = p + 1 + (W t).length + (Wr ts).length by simp [Wr]; omega]
    rw [show row ++ t :: ts = row ++ [t] ++ ts by simp]
    exact g
end
theorem read_parts_W {s : Str} (hs : lowS s) {t : T} (h : Ok 60 t) (e : s.cps.toList = W t) : φ_read_parts [.str s] = .ok (.lst [t]) [some (.str s)] := by
  have g := goes_W hs t 60 [] [] 0 [] h (by simp) (by simpa using e) (fun c z => by cases z) (Nat.le_refl _)
  obtain ⟨m, w, x, y, z, hm, g⟩ := g none none none none
  have hf : m < FUEL := by have := fuel_ok; have := hs.2; have := len_list s; rw [e] at this; omega
  have g1 := g (FUEL - m)
  rw [Nat.sub_add_cancel (Nat.le_of_lt hf)] at g1
  have c := rp_cond hs (rows := [] ++ [[] ++ [t]]) (p := 0 + (W t).length) (w := w) (x := x) (y := y) (z := z)
  rw [decide_eq_false (by rw [e]; omega)] at c
  rw [show FUEL - m = (FUEL - m - 1) + 1 by omega] at g1
  have g2 := g1.trans (w_end c)
  rcases rp_end (s := s) (rows := [] ++ [[] ++ [t]]) (p := 0 + (W t).length) (w := w) (x := x) (y := y) (z := z) with ⟨h1, ts, e1, e2⟩ | ⟨h1, _⟩
  · have : ts = [t] := by simpa using e1.symm
    subst this
    exact (rp_run g2).1 _ rfl _ _ e2
  · exact absurd rfl h1
end K83
set_option Elab.async false
set_option linter.all false
set_option maxRecDepth 100000
set_option maxHeartbeats 400000
/-! k83: write_value. -/
namespace K83
open PySem L2 Pv
abbrev tl (s : Str) : List Nat := s.cps.toList
/-- the parts together -/
def flat : List Str → List Nat
  | [] => []
  | s :: r => tl s ++ flat r
theorem flat_app : ∀ (a b : List Str), flat (a ++ b) = flat a ++ flat b
  | [], b => rfl
  | s :: a, b => by simp only [List.cons_append, flat, flat_app a b, List.append_assoc]
theorem tl_add (x y : Str) : tl (x ++ y) = tl x ++ tl y := by
  show (x.cps ++ y.cps).toList = _
  rw [Array.toList_append]
theorem tl_join0 : ∀ (ys : List Str), tl (Txt.join "" ys) = flat ys := by
  intro ys
  rw [TL.join_eq]
  induction ys with
  | nil => rfl
  | cons x r ih =>
    cases r with
    | nil => simp [flat, Str.join]
    | cons z r =>
      have e : tl (Str.join "" (x :: z :: r)) = tl x ++ (tl "" ++ tl (Str.join "" (z :: r))) := by
        show tl (x ++ "" ++ Str.join "" (z :: r)) = _
        rw [tl_add, tl_add, List.append_assoc]
      rw [e, ih]
      have e0 : tl "" = [] := by decide +kernel
      rw [e0]
      rfl
theorem len_flat : ∀ (ys : List Str), (ys.map (·.length)).sum = (flat ys).length
  | [] => rfl
  | s :: r => by
    have := len_flat r
    have : (tl s).length = s.length := len_list s
    simp only [List.map_cons, List.sum_cons, flat, List.length_append]
    omega
theorem strsOf_map : ∀ (ys : List Str), strsOf (ys.map T.str) = some ys
  | [] => rfl
  | s :: r => by simp only [List.map_cons, strsOf, strsOf_map r]
/-- an item of the stack -/
def pk (x : Bool × T) : T := .tup [.bl x.1, x.2]
def stk (S : List (Bool × T)) : List T := S.reverse.map pk
theorem stk_cons (x : Bool × T) (S : List (Bool × T)) : stk (x :: S) = stk S ++ [pk x] := by simp [stk]
def outI : Bool × T → List Nat
  | (true, .str x) => tl x
  | (true, _) => []
  | (false, t) => W t
def outS : List (Bool × T) → List Nat
  | [] => []
  | x :: S => outI x ++ outS S
def okI : Bool × T → Prop
  | (true, t) => ∃ x, t = .str x ∧ 0 < (tl x).length
  | (false, t) => Ok 60 t ∨ ∃ k, Ok k t
def exR : List T → List (Bool × T)
  | [] => []
  | t :: ts => (true, .str " ") :: (false, t) :: exR ts
def ex : List T → List (Bool × T)
  | [] => []
  | t :: ts => (false, t) :: exR ts
theorem outS_exR : ∀ (ts : List T) (S : List (Bool × T)), outS (exR ts ++ S) = Wr ts ++ outS S
  | [], S => rfl
  | t :: ts, S => by
    have e : tl " " = [32] := by decide +kernel
    simp only [exR, List.cons_append, outS, outI, outS_exR ts S, Wr, List.append_assoc]
    rw [e]
    rfl
theorem outS_ex (ts : List T) (S : List (Bool × T)) : outS (ex ts ++ S) = Ws ts ++ outS S := by
  cases ts with
  | nil => rfl
  | cons t ts => simp only [ex, List.cons_append, outS, outI, outS_exR, Ws, List.append_assoc]
theorem okI_exR : ∀ {ts : List T} {k : Nat}, Oks k ts → ∀ x ∈ exR ts, okI x
  | [], _, _, x, h => by cases h
  | t :: ts, k, o, x, h => by
    simp only [Oks] at o
    simp only [exR, List.mem_cons] at h
    rcases h with rfl | rfl | h
    · exact ⟨_, rfl, by decide +kernel⟩
    · exact .inr ⟨k, o.1⟩
    · exact okI_exR o.2 x h
theorem okI_ex {ts : List T} {k : Nat} (o : Oks k ts) : ∀ x ∈ ex ts, okI x := by
  cases ts with
  | nil => intro x h; cases h
  | cons t ts =>
    simp only [Oks] at o
    intro x h
    rcases List.mem_cons.mp h with rfl | h
    · exact .inr ⟨k, o.1⟩
    · exact okI_exR o.2 x h
theorem outI_pos {x : Bool × T} (h : okI x) : 0 < (outI x).length := by
  obtain ⟨b, t⟩ := x
  cases b with
  | true =>
    obtain ⟨y, rfl, h⟩ := h
    exact h
  | false =>
    have : ∃ k, Ok k t := h.elim (fun h => ⟨60, h⟩) id
    obtain ⟨k, h⟩ := this
    obtain ⟨c, r, e, _⟩ := W_pos t k h
    show 0 < (W t).length
    rw [e]; simp
theorem stk_len : ∀ {S : List (Bool × T)}, (∀ x ∈ S, okI x) → S.length ≤ (outS S).length
  | [], _ => Nat.le_refl _
  | x :: S, h => by
    have := outI_pos (h x List.mem_cons_self)
    have := stk_len (S := S) fun y hy => h y (List.mem_cons_of_mem _ hy)
    simp only [List.length_cons, outS, List.length_append]
    omega
theorem len_stk (S : List (Bool × T)) : (stk S).length = S.length := by simp [stk]
/-! ### the loop over the places of a tuple -/
def dn : Nat → List T
  | 0 => []
  | k + 1 => .int (k : Int) :: dn k
theorem dn_range : ∀ (n : Nat), (List.range n).map (fun (k : Nat) => T.int ((n : Int) - 1 + (k : Int) * (-1))) = dn n
  | 0 => rfl
  | n + 1 => by
    rw [List.range_succ_eq_map, List.map_cons, List.map_map, dn, ← dn_range n]
    congr 1
    · congr 1; omega
    · refine List.map_congr_left fun k _ => ?_
      simp only [Function.comp_apply]
      congr 1; omega
abbrev w6 (v : T) (P : List Str) (S : List (Bool × T)) (a b c : Option T) : Rho := [some v, some (.lst (P.map T.str)), some (.lst (stk S)), a, b, c]
def placeB : List Sx := [sExpr (eAppend (eVar 2) (eTup (xs [(eBl false), (eIx (eVar 4) (eVar 5))]))),
  sIf (bCmp .Gt (eVar 5) (eInt 0)) (blk [sExpr (eAppend (eVar 2) (eTup (xs [(eBl true), (eStr " ")])))]) (blk [])]
def exAt (ts : List T) (j : Nat) : List (Bool × T) := if j = 0 then ex ts else exR (ts.drop j)
section
variable {v : T} {P : List Str} {S : List (Bool × T)} {a b c : Option T}
theorem w_push {x : Bool × T} {e : Ex} (he : e.sem (w6 v P S a b c) = .ok (.v (pk x)) (w6 v P S a b c) false) (hl : S.length < sizeLine) :
    (sExpr (eAppend (eVar 2) e)).sem (w6 v P S a b c) = .nx (w6 v P (x :: S) a b c) := by
  have := s_app (i := 2) (a := e) (ρ := w6 v P S a b c) (ρ1 := w6 v P S a b c) (ts := stk S) (ts1 := stk S) (t := pk x) (τ := false) rfl he rfl (by rw [len_stk]; exact hl)
  rw [this, ← stk_cons]
  rfl
theorem w_part {x : Str} {e : Ex} (he : e.sem (w6 v P S a b c) = .ok (.v (.str x)) (w6 v P S a b c) false) (hl : P.length < sizeLine) :
    (sExpr (eAppend (eVar 1) e)).sem (w6 v P S a b c) = .nx (w6 v (P ++ [x]) S a b c) := by
  have := s_app (i := 1) (a := e) (ρ := w6 v P S a b c) (ρ1 := w6 v P S a b c) (ts := P.map T.str) (ts1 := P.map T.str) (t := .str x) (τ := false) rfl he rfl (by rw [List.length_map]; exact hl)
  have e2 : P.map T.str ++ [T.str x] = (P ++ [x]).map T.str := by simp
  rw [this, e2]
  rfl
theorem place_loop {ts : List T} (him : T.imms ts = true) (hl : S.length + 2 * ts.length < sizeLine) : ∀ (j : Nat) (c : Option T), j ≤ ts.length →
    ∃ c', forF (gN 5).sem (blk placeB).sem (dn j) (w6 v P (exAt ts j ++ S) a (some (.tup ts)) c) = .nx (w6 v P (ex ts ++ S) a (some (.tup ts)) c')
  | 0, c, _ => ⟨c, rfl⟩
  | j + 1, c, hj => by
    have hlt : j < ts.length := hj
    have hx : ts[j]? = some ts[j] := List.getElem?_eq_getElem hlt
    have im := imms_get him hx
    have exl : ∀ l : List T, (exR l).length = 2 * l.length := fun l => by
      induction l with
      | nil => rfl
      | cons a r ih => simp only [exR, List.length_cons, ih]; omega
    have e1 : exAt ts (j + 1) = exR (ts.drop (j + 1)) := if_neg (by omega)
    have l1 : (exR (ts.drop (j + 1))).length ≤ 2 * ts.length - 2 := by rw [exl, List.length_drop]; omega
    have v4 : (eVar 4).sem (w6 v P (exR (ts.drop (j + 1)) ++ S) a (some (.tup ts)) (some (.int j))) = .ok (.v (.tup ts)) (w6 v P (exR (ts.drop (j + 1)) ++ S) a (some (.tup ts)) (some (.int j))) false := v_imm rfl him
    have ix : (eIx (eVar 4) (eVar 5)).sem (w6 v P (exR (ts.drop (j + 1)) ++ S) a (some (.tup ts)) (some (.int j))) = .ok (.v ts[j]) (w6 v P (exR (ts.drop (j + 1)) ++ S) a (some (.tup ts)) (some (.int j))) false := by
      refine e_ix (τ1 := false) (τ2 := false) (o2 := .v (.int j)) v4 rfl rfl rfl rfl rfl ?_
      simp only [ixO, ixN_in (n := ts.length) (i := (j : Int)) (by omega) (by omega), Int.toNat_natCast, hx, itemO, im, if_true]
    have tp : (eTup (xs [(eBl false), (eIx (eVar 4) (eVar 5))])).sem (w6 v P (exR (ts.drop (j + 1)) ++ S) a (some (.tup ts)) (some (.int j))) = .ok (.v (pk (false, ts[j]))) (w6 v P (exR (ts.drop (j + 1)) ++ S) a (some (.tup ts)) (some (.int j))) false :=
      e_tup (ts := [.bl false, ts[j]]) (evc (t := .bl false) (ρ1 := w6 v P (exR (ts.drop (j + 1)) ++ S) a (some (.tup ts)) (some (.int j))) (τ1 := false) rfl (evc ix evn)) (by show 2 ≤ 10000; decide)
    have p1 := w_push tp (by rw [List.length_append]; omega)
    have c5 : (bCmp .Gt (eVar 5) (eInt 0)).sem (w6 v P ((false, ts[j]) :: (exR (ts.drop (j + 1)) ++ S)) a (some (.tup ts)) (some (.int j))) = .ok (decide ((0 : Int) < (j : Int))) (w6 v P ((false, ts[j]) :: (exR (ts.drop (j + 1)) ++ S)) a (some (.tup ts)) (some (.int j))) false := rfl
    by_cases h0 : j = 0
    · subst h0
      have c5' : (bCmp .Gt (eVar 5) (eInt 0)).sem (w6 v P ((false, ts[0]) :: (exR (ts.drop (0 + 1)) ++ S)) a (some (.tup ts)) (some (.int ((0 : Nat) : Int)))) = .ok false (w6 v P ((false, ts[0]) :: (exR (ts.drop (0 + 1)) ++ S)) a (some (.tup ts)) (some (.int ((0 : Nat) : Int)))) false := rfl
      have e2 : (false, ts[0]) :: exR (ts.drop 1) = ex ts := by
        cases ts with
        | nil => simp at hlt
        | cons t r => rfl
      refine ⟨some (.int ((0 : Nat) : Int)), ?_⟩
      rw [e1]
      refine (f_nx (ρ1 := w6 v P (exR (ts.drop (0 + 1)) ++ S) a (some (.tup ts)) (some (.int ((0 : Nat) : Int)))) rfl ((b_nx p1).trans ((b_nx ((i_f c5').trans rfl)).trans b_nil))).trans ?_
      rw [← List.cons_append, e2]
      rfl
    · rw [decide_eq_true (by omega)] at c5
      have tp2 : (eTup (xs [(eBl true), (eStr " ")])).sem (w6 v P ((false, ts[j]) :: (exR (ts.drop (j + 1)) ++ S)) a (some (.tup ts)) (some (.int j))) = .ok (.v (pk (true, .str " "))) (w6 v P ((false, ts[j]) :: (exR (ts.drop (j + 1)) ++ S)) a (some (.tup ts)) (some (.int j))) false := rfl
      have p2 := w_push tp2 (by rw [List.length_cons, List.length_append]; omega)
      have e2 : (true, T.str " ") :: (false, ts[j]) :: exR (ts.drop (j + 1)) = exAt ts j := by
        unfold exAt
        rw [if_neg h0, List.drop_eq_getElem_cons hlt]
        rfl
      obtain ⟨c', e⟩ := place_loop him hl j (some (.int j)) (by omega)
      refine ⟨c', ?_⟩
      rw [e1]
      refine (f_nx (ρ1 := w6 v P (exR (ts.drop (j + 1)) ++ S) a (some (.tup ts)) (some (.int j))) rfl ((b_nx p1).trans ((b_nx ((i_t c5).trans ((b_nx p2).trans b_nil))).trans b_nil))).trans ?_
      rw [← List.cons_append, ← List.cons_append, e2]
      exact e
end
end K83
set_option Elab.async false
set_option linter.all false
set_option maxRecDepth 100000
set_option maxHeartbeats 400000
/-! k83: write_value, the turns and the end. -/
namespace K83
open PySem L2 Pv
def tupB' : List Sx := [sExpr (eAppend (eVar 1) (eStr "(")),
  sExpr (eAppend (eVar 2) (eTup (xs [(eBl true), (eStr ")")]))),
  sFor (gN 5) (iRange3 (eBin .Sub (eLen (eVar 4)) (eInt 1)) (eNeg (eInt 1)) (eNeg (eInt 1))) (blk placeB)]
def writeB : List Sx := [sSet (gT [3, 4]) (ePop (eVar 2)),
  sIf (bTruth (eVar 3)) (blk [sExpr (eAppend (eVar 1) (eVar 4))]) (blk [sIf (bCmp .Is (eVar 4) eNon) (blk [sExpr (eAppend (eVar 1) (eStr "-"))]) (blk [sIf (bTruth (eIs (eVar 4) .str)) (blk [sExpr (eAppend (eVar 1) (eBin .Add (eBin .Add (eStr "\"") (eVar 4)) (eStr "\"")))]) (blk [sIf (bTruth (eIs (eVar 4) .int)) (blk [sExpr (eAppend (eVar 1) (eStrOf (eVar 4)))]) (blk tupB')])])])]
theorem write_is : b_write_value = blk [sSet (gN 1) (eLst (xs [])),
  sSet (gN 2) (eLst (xs [(eTup (xs [(eBl false), (eVar 0)]))])),
  sWhile FUEL (bTruth (eVar 2)) (blk writeB),
  sRet (eJoin (eStr "") (eVar 1))] := rfl
section
variable {v : T} {P : List Str} {S : List (Bool × T)} {a b c : Option T}
theorem w_pop {x : Bool × T} (him : x.2.imm = true) : (sSet (gT [3, 4]) (ePop (eVar 2))).sem (w6 v P (x :: S) a b c) = .nx (w6 v P S (some (.bl x.1)) (some x.2) c) := by
  have e := stk_cons x S
  have p := e_pop (i := 2) (ρ := w6 v P (x :: S) a b c) (ts := stk (x :: S)) (t := pk x) rfl (by rw [e]; simp)
  refine s_set (ρ1 := w6 v P S a b c) (t := pk x) (τ := true) ?_ ?_
  · rw [p, e, List.dropLast_concat]; rfl
  · show (if T.imms [.bl x.1, x.2] = true then _ else none) = _
    rw [if_pos (by simp [T.imms, T.imm, him])]
    rfl
theorem w_written {x : Str} (hl : P.length < sizeLine) : (blk writeB).sem (w6 v P ((true, .str x) :: S) a b c) = .nx (w6 v (P ++ [x]) S (some (.bl true)) (some (.str x)) c) := by
  have c1 : (bTruth (eVar 3)).sem (w6 v P S (some (.bl true)) (some (.str x)) c) = .ok true (w6 v P S (some (.bl true)) (some (.str x)) c) false := rfl
  exact (b_nx (w_pop (x := (true, .str x)) rfl)).trans ((b_nx ((i_t c1).trans ((b_nx (w_part rfl hl)).trans b_nil))).trans b_nil)
theorem w_non (hl : P.length < sizeLine) : (blk writeB).sem (w6 v P ((false, .non) :: S) a b c) = .nx (w6 v (P ++ [("-" : Str)]) S (some (.bl false)) (some .non) c) := by
  have c1 : (bTruth (eVar 3)).sem (w6 v P S (some (.bl false)) (some .non) c) = .ok false (w6 v P S (some (.bl false)) (some .non) c) false := rfl
  have c2 : (bCmp .Is (eVar 4) eNon).sem (w6 v P S (some (.bl false)) (some .non) c) = .ok true (w6 v P S (some (.bl false)) (some .non) c) false := rfl
  exact (b_nx (w_pop (x := (false, .non)) rfl)).trans ((b_nx ((i_f c1).trans ((b_nx ((i_t c2).trans ((b_nx (w_part rfl hl)).trans b_nil))).trans b_nil))).trans b_nil)
theorem w_str {x : Str} (hx : x.length ≤ 6400) (hl : P.length < sizeLine) : (blk writeB).sem (w6 v P ((false, .str x) :: S) a b c) = .nx (w6 v (P ++ ["\"" ++ x ++ "\""]) S (some (.bl false)) (some (.str x)) c) := by
  have c1 : (bTruth (eVar 3)).sem (w6 v P S (some (.bl false)) (some (.str x)) c) = .ok false (w6 v P S (some (.bl false)) (some (.str x)) c) false := rfl
  have c2 : (bCmp .Is (eVar 4) eNon).sem (w6 v P S (some (.bl false)) (some (.str x)) c) = .ok false (w6 v P S (some (.bl false)) (some (.str x)) c) false := rfl
  have c3 : (bTruth (eIs (eVar 4) .str)).sem (w6 v P S (some (.bl false)) (some (.str x)) c) = .ok true (w6 v P S (some (.bl false)) (some (.str x)) c) false := rfl
  have q1 : ("\"" : Str).length = 1 := by decide +kernel
  have a1 : (eBin .Add (eStr "\"") (eVar 4)).sem (w6 v P S (some (.bl false)) (some (.str x)) c) = .ok (.v (.str ("\"" ++ x))) (w6 v P S (some (.bl false)) (some (.str x)) c) false :=
    e_bin (τ1 := false) (τ2 := false) (o1 := .v (.str "\"")) (o2 := .v (.str x)) (x := .str "\"") (y := .str x) rfl rfl rfl rfl rfl rfl (if_pos (by rw [q1, sizeLine_eq]; omega))
  have a2 : (eBin .Add (eBin .Add (eStr "\"") (eVar 4)) (eStr "\"")).sem (w6 v P S (some (.bl false)) (some (.str x)) c) = .ok (.v (.str ("\"" ++ x ++ "\""))) (w6 v P S (some (.bl false)) (some (.str x)) c) false :=
    e_bin (τ2 := false) (o2 := .v (.str "\"")) (y := .str "\"") a1 rfl rfl rfl rfl rfl (if_pos (by rw [addS_len, q1, sizeLine_eq]; omega))
  exact (b_nx (w_pop (x := (false, .str x)) rfl)).trans ((b_nx ((i_f c1).trans ((b_nx ((i_f c2).trans ((b_nx ((i_t c3).trans ((b_nx (w_part a2 hl)).trans b_nil))).trans b_nil))).trans b_nil))).trans b_nil)
theorem big_4300 {i : Int} (h : i.natAbs < BIG) : i.natAbs < 10 ^ 4300 := Nat.lt_of_lt_of_le h (Nat.pow_le_pow_right (by decide) (by decide))
theorem w_int {i : Int} (hi : i.natAbs < BIG) (hl : P.length < sizeLine) : (blk writeB).sem (w6 v P ((false, .int i) :: S) a b c) = .nx (w6 v (P ++ [Str.ofString (toString i)]) S (some (.bl false)) (some (.int i)) c) := by
  have c1 : (bTruth (eVar 3)).sem (w6 v P S (some (.bl false)) (some (.int i)) c) = .ok false (w6 v P S (some (.bl false)) (some (.int i)) c) false := rfl
  have c2 : (bCmp .Is (eVar 4) eNon).sem (w6 v P S (some (.bl false)) (some (.int i)) c) = .ok false (w6 v P S (some (.bl false)) (some (.int i)) c) false := rfl
  have c3 : (bTruth (eIs (eVar 4) .str)).sem (w6 v P S (some (.bl false)) (some (.int i)) c) = .ok false (w6 v P S (some (.bl false)) (some (.int i)) c) false := rfl
  have c4 : (bTruth (eIs (eVar 4) .int)).sem (w6 v P S (some (.bl false)) (some (.int i)) c) = .ok true (w6 v P S (some (.bl false)) (some (.int i)) c) false := rfl
  have st : (eStrOf (eVar 4)).sem (w6 v P S (some (.bl false)) (some (.int i)) c) = .ok (.v (.str (Str.ofString (toString i)))) (w6 v P S (some (.bl false)) (some (.int i)) c) false := by
    show opSem [(eVar 4).sem] (f1 strOfT) (w6 v P S (some (.bl false)) (some (.int i)) c) = _
    unfold opSem
    rw [ev1 (o1 := .v (.int i)) (ρ1 := w6 v P S (some (.bl false)) (some (.int i)) c) (τ1 := false) rfl rfl]
    simp only [f1, getO, strOfT, if_pos (big_4300 hi)]
  exact (b_nx (w_pop (x := (false, .int i)) rfl)).trans ((b_nx ((i_f c1).trans ((b_nx ((i_f c2).trans ((b_nx ((i_f c3).trans ((b_nx ((i_t c4).trans ((b_nx (w_part st hl)).trans b_nil))).trans b_nil))).trans b_nil))).trans b_nil))).trans b_nil)
theorem small62_of {i : Int} (h : -1 ≤ i ∧ i < 4000000) : small62 i = true := by
  unfold small62
  rw [decide_eq_true (by omega), decide_eq_true (by omega)]; rfl
theorem w_tup {ts : List T} (him : T.imms ts = true) (hts : ts.length ≤ 1000000) (hS : S.length ≤ 1000000) (hl : P.length < sizeLine) :
    ∃ c', (blk writeB).sem (w6 v P ((false, .tup ts) :: S) a b c) = .nx (w6 v (P ++ [("(" : Str)]) (ex ts ++ ((true, .str ")") :: S)) (some (.bl false)) (some (.tup ts)) c') := by
  have c1 : (bTruth (eVar 3)).sem (w6 v P S (some (.bl false)) (some (.tup ts)) c) = .ok false (w6 v P S (some (.bl false)) (some (.tup ts)) c) false := rfl
  have v4 : ∀ {P : List Str} {S : List (Bool × T)}, (eVar 4).sem (w6 v P S (some (.bl false)) (some (.tup ts)) c) = .ok (.v (.tup ts)) (w6 v P S (some (.bl false)) (some (.tup ts)) c) false := v_imm rfl him
  have c2 : (bCmp .Is (eVar 4) eNon).sem (w6 v P S (some (.bl false)) (some (.tup ts)) c) = .ok false (w6 v P S (some (.bl false)) (some (.tup ts)) c) false := b_cmp (τ2 := false) (o2 := .v .non) v4 rfl rfl rfl rfl rfl rfl
  have is : ∀ ty : Ty, Ty.is ty (.tup ts) = false → (bTruth (eIs (eVar 4) ty)).sem (w6 v P S (some (.bl false)) (some (.tup ts)) c) = .ok false (w6 v P S (some (.bl false)) (some (.tup ts)) c) false := fun ty h => by
    refine b_tru (o := .v (.bl false)) (t := .bl false) ?_ rfl rfl
    show opSem [(eVar 4).sem] (f1 (isT ty)) (w6 v P S (some (.bl false)) (some (.tup ts)) c) = _
    unfold opSem
    rw [ev1 v4 rfl]
    simp only [f1, getO, isT, h]
  have c3 := is .str rfl
  have c4 := is .int rfl
  have p1 : (sExpr (eAppend (eVar 1) (eStr "("))).sem (w6 v P S (some (.bl false)) (some (.tup ts)) c) = .nx (w6 v (P ++ [("(" : Str)]) S (some (.bl false)) (some (.tup ts)) c) := w_part rfl hl
  have p2 : (sExpr (eAppend (eVar 2) (eTup (xs [(eBl true), (eStr ")")])))).sem (w6 v (P ++ [("(" : Str)]) S (some (.bl false)) (some (.tup ts)) c) = .nx (w6 v (P ++ [("(" : Str)]) ((true, .str ")") :: S) (some (.bl false)) (some (.tup ts)) c) := w_push rfl (by rw [sizeLine_eq]; omega)
  obtain ⟨c', e⟩ := place_loop (v := v) (P := P ++ [("(" : Str)]) (S := (true, .str ")") :: S) (a := some (.bl false)) him (by rw [List.length_cons, sizeLine_eq]; omega) ts.length c (Nat.le_refl _)
  refine ⟨c', ?_⟩
  have e0 : exAt ts ts.length = [] := by
    unfold exAt
    split
    · rename_i h
      rw [List.length_eq_zero_iff.mp h]; rfl
    · rw [List.drop_length]; rfl
  rw [e0, List.nil_append] at e
  let ρ3 : Rho := w6 v (P ++ [("(" : Str)]) ((true, .str ")") :: S) (some (.bl false)) (some (.tup ts)) c
  have el : (eLen (eVar 4)).sem ρ3 = .ok (.v (.int ts.length)) ρ3 false := by
    show opSem [(eVar 4).sem] (f1 lenT) ρ3 = _
    unfold opSem
    rw [ev1 v4 rfl]
    rfl
  have su : (eBin .Sub (eLen (eVar 4)) (eInt 1)).sem ρ3 = .ok (.v (.int ((ts.length : Int) - 1))) ρ3 false := e_bin (τ2 := false) (o2 := .v (.int 1)) (y := .int 1) el rfl rfl rfl rfl rfl rfl
  have rg : (iRange3 (eBin .Sub (eLen (eVar 4)) (eInt 1)) (eNeg (eInt 1)) (eNeg (eInt 1))).sem ρ3 = .ok (dn ts.length) ρ3 false false := by
    show rngSem [(eBin .Sub (eLen (eVar 4)) (eInt 1)).sem, (eNeg (eInt 1)).sem, (eNeg (eInt 1)).sem] rng3F ρ3 = _
    unfold rngSem
    rw [evc su (evc (t := .int (-1)) (ρ1 := ρ3) (τ1 := false) rfl (evc (t := .int (-1)) (ρ1 := ρ3) (τ1 := false) rfl evn))]
    show (match rng3F [.int ((ts.length : Int) - 1), .int (-1), .int (-1)] with | some items => RI.ok items ρ3 false false | none => .stuck) = _
    have : rng3F [.int ((ts.length : Int) - 1), .int (-1), .int (-1)] = some (dn ts.length) := by
      have hc : (decide ((-1 : Int) = -1) && (small62 ((ts.length : Int) - 1) && small62 (-1))) = true := by rw [small62_of (i := (ts.length : Int) - 1) (by omega)]; rfl
      refine (if_pos hc).trans ?_
      rw [← dn_range]
      congr 2
      have : ((ts.length : Int) - 1 - -1).toNat = ts.length := by omega
      rw [this]
    rw [this]
  have p3 := (s_for (tg := gN 5) (b := blk placeB) rg).trans e
  exact (b_nx (w_pop (x := (false, .tup ts)) him)).trans ((b_nx ((i_f c1).trans ((b_nx ((i_f c2).trans ((b_nx ((i_f c3).trans ((b_nx ((i_f c4).trans ((b_nx p1).trans ((b_nx p2).trans ((b_nx p3).trans b_nil))))).trans b_nil))).trans b_nil))).trans b_nil))).trans b_nil)
end
theorem wv_loop (v : T) : ∀ (n : Nat) (S : List (Bool × T)) (P : List Str) (a b c : Option T), (outS S).length < n → (∀ x ∈ S, okI x) → P.length + (outS S).length ≤ 900000 →
    ∃ P' a' b' c', whileF n (bTruth (eVar 2)).sem (blk writeB).sem (w6 v P S a b c) = .nx (w6 v P' [] a' b' c') ∧ flat P' = flat P ++ outS S ∧ P'.length ≤ P.length + (outS S).length
  | 0, S, P, a, b, c, h, _, _ => by omega
  | n + 1, [], P, a, b, c, h, _, _ => by
    have e : (bTruth (eVar 2)).sem (w6 v P [] a b c) = .ok false (w6 v P [] a b c) false := rfl
    exact ⟨P, a, b, c, w_end e, by simp [outS], by simp [outS]⟩
  | n + 1, x :: S, P, a, b, c, h, ok, hP => by
    have e : (bTruth (eVar 2)).sem (w6 v P (x :: S) a b c) = .ok true (w6 v P (x :: S) a b c) false := by
      refine b_tru (o := .p 2 []) (t := .lst (stk (x :: S))) rfl rfl ?_
      rw [stk_cons]
      show some (!(stk S ++ [pk x]).isEmpty) = _
      simp
    have okx := ok x List.mem_cons_self
    have okS : ∀ y ∈ S, okI y := fun y hy => ok y (List.mem_cons_of_mem _ hy)
    have pos := outI_pos okx
    have lS := stk_len okS
    simp only [outS, List.length_append] at h hP
    have hl : P.length < sizeLine := by rw [sizeLine_eq]; omega
    -- one part, and the rest
    have go : ∀ {y : Str} {a1 b1 c1 : Option T}, tl y = outI x → (blk writeB).sem (w6 v P (x :: S) a b c) = .nx (w6 v (P ++ [y]) S a1 b1 c1) →
        ∃ P' a' b' c', whileF (n + 1) (bTruth (eVar 2)).sem (blk writeB).sem (w6 v P (x :: S) a b c) = .nx (w6 v P' [] a' b' c') ∧ flat P' = flat P ++ outS (x :: S) ∧ P'.length ≤ P.length + (outS (x :: S)).length := fun {y a1 b1 c1} hy t => by
      obtain ⟨P', a', b', c', q1, q2, q3⟩ := wv_loop v n S (P ++ [y]) a1 b1 c1 (by omega) okS (by simp; omega)
      refine ⟨P', a', b', c', (w_nx e t).trans q1, ?_, ?_⟩
      · rw [q2, flat_app]
        simp only [flat, outS, hy, List.append_nil, List.append_assoc]
      · simp only [outS, List.length_append]
        simp at q3
        omega
    obtain ⟨bb, t⟩ := x
    cases bb with
    | true =>
      obtain ⟨y, hy, hp⟩ := okx
      subst hy
      exact go (y := y) rfl (w_written hl)
    | false =>
      have : ∃ k, Ok k t := okx.elim (fun h => ⟨60, h⟩) id
      obtain ⟨k, okt⟩ := this
      cases t with
      | non => exact go (y := "-") (by decide +kernel) (w_non hl)
      | int i =>
        have hi : i.natAbs < BIG := by cases k <;> simpa only [Ok] using okt
        exact go rfl (w_int hi hl)
      | str y =>
        obtain ⟨h1, h2⟩ := okStr_all (s := y) (by cases k <;> simpa only [Ok] using okt)
        refine go ?_ (w_str (x := y) (by rw [← len_list]; exact h2) hl)
        rw [tl_add, tl_add]
        have : tl "\"" = [34] := by decide +kernel
        rw [this]
        simp [outI, W]
      | tup ts =>
        cases k with
        | zero => simp only [Ok] at okt
        | succ k =>
          simp only [Ok] at okt
          have eo : outI (false, .tup ts) = 40 :: (Ws ts ++ [41]) := rfl
          have e1 : outS (ex ts ++ ((true, .str ")") :: S)) = Ws ts ++ 41 :: outS S := by
            have : tl ")" = [41] := by decide +kernel
            rw [outS_ex]
            simp only [outS, outI, this]
            rfl
          rw [eo] at h hP
          simp only [List.length_cons, List.length_append, List.length_nil] at h hP
          have lw : ts.length ≤ (Ws ts).length := by
            have := stk_len (S := ex ts) (okI_ex okt)
            have e := outS_ex ts []
            rw [List.append_nil] at e
            rw [e] at this
            simp only [outS, List.append_nil] at this
            have l2 : ts.length ≤ (ex ts).length := by
              have exl : ∀ l : List T, l.length ≤ (exR l).length := fun l => by
                induction l with
                | nil => simp
                | cons a r ih => simp only [exR, List.length_cons]; omega
              cases ts with
              | nil => simp
              | cons t r => simp only [ex, List.length_cons]; have := exl r; omega
            omega
          obtain ⟨c', t⟩ := w_tup (v := v) (P := P) (S := S) (a := a) (b := b) (c := c) (oks_imm _ _ okt) (by omega) (by omega) hl
          have ok2 : ∀ y ∈ ex ts ++ ((true, T.str ")") :: S), okI y := fun y hy => by
            rcases List.mem_append.mp hy with hy | hy
            · exact okI_ex okt y hy
            · rcases List.mem_cons.mp hy with rfl | hy
              · exact ⟨_, rfl, by decide +kernel⟩
              · exact okS y hy
          obtain ⟨P', a1, b1, c1, q1, q2, q3⟩ := wv_loop v n _ (P ++ [("(" : Str)]) (some (.bl false)) (some (.tup ts)) c' (by rw [e1]; simp; omega) ok2 (by rw [e1]; simp; omega)
          refine ⟨P', a1, b1, c1, (w_nx e t).trans q1, ?_, ?_⟩
          · have : tl "(" = [40] := by decide +kernel
            rw [q2, flat_app, e1]
            simp only [flat, outS, this, eo]
            simp
          · rw [e1] at q3
            simp only [outS, eo]
            simp at q3 ⊢
            omega
      | bl b => cases k <;> simp only [Ok] at okt
      | lst b => cases k <;> simp only [Ok] at okt
      | fro b => cases k <;> simp only [Ok] at okt
theorem write_value_ok {t : T} {k : Nat} (h : Ok k t) (hl : (W t).length ≤ 900000) : φ_write_value [t] = .ok (.str (tx (W t))) [some t] := by
  have him := ok_imm t k h
  have s1 : (sSet (gN 1) (eLst (xs []))).sem [some t, none, none, none, none, none] = .nx [some t, some (.lst []), none, none, none, none] := s_set (ρ1 := [some t, none, none, none, none, none]) (t := .lst []) (τ := false) rfl rfl
  have v0 : (eVar 0).sem [some t, some (.lst []), none, none, none, none] = .ok (.v t) [some t, some (.lst []), none, none, none, none] false := v_imm rfl him
  have tp : (eTup (xs [(eBl false), (eVar 0)])).sem [some t, some (.lst []), none, none, none, none] = .ok (.v (pk (false, t))) [some t, some (.lst []), none, none, none, none] false :=
    e_tup (ts := [.bl false, t]) (evc (t := .bl false) (ρ1 := [some t, some (.lst []), none, none, none, none]) (τ1 := false) rfl (evc v0 evn)) (by show 2 ≤ 10000; decide)
  have ls : (eLst (xs [(eTup (xs [(eBl false), (eVar 0)]))])).sem [some t, some (.lst []), none, none, none, none] = .ok (.v (.lst [pk (false, t)])) [some t, some (.lst []), none, none, none, none] false := by
    show opSem [(eTup (xs [(eBl false), (eVar 0)])).sem] lstF _ = _
    unfold opSem
    rw [ev1 tp rfl]
    rfl
  have s2 : (sSet (gN 2) (eLst (xs [(eTup (xs [(eBl false), (eVar 0)]))]))).sem [some t, some (.lst []), none, none, none, none] = .nx (w6 t [] [(false, t)] none none none) := s_set ls rfl
  obtain ⟨P', a, b, c, q1, q2, q3⟩ := wv_loop t FUEL [(false, t)] [] none none none (by
      have : 900000 < FUEL := by decide +kernel
      simp only [outS, outI, List.append_nil]; omega) (fun x hx => by
      rcases List.mem_cons.mp hx with rfl | hx
      · exact .inr ⟨k, h⟩
      · cases hx) (by simp only [outS, outI, List.append_nil, List.length_nil]; omega)
  have q2' : flat P' = W t := by simpa [flat, outS, outI] using q2
  have jn : (eJoin (eStr "") (eVar 1)).sem (w6 t P' [] a b c) = .ok (.v (.str (tx (W t)))) (w6 t P' [] a b c) false := by
    show opSem [kindSem isStr (eStr "").sem, (eVar 1).sem] (f2 joinT) (w6 t P' [] a b c) = _
    unfold opSem
    rw [ev2 (o1 := .v (.str "")) (o2 := .p 1 []) (ρ1 := w6 t P' [] a b c) (ρ2 := w6 t P' [] a b c) (τ1 := false) (τ2 := false) rfl rfl rfl rfl]
    have jj : joinL "" (P'.map T.str) = some (.str (tx (W t))) := by
      unfold joinL
      rw [strsOf_map]
      simp only
      have l0 : ("" : Str).length = 0 := by decide +kernel
      rw [if_pos (by rw [len_flat, q2', l0]; omega)]
      congr 2
      have := tl_join0 P'
      rw [q2'] at this
      cases hj : Txt.join "" P' with
      | mk x =>
        rw [hj] at this
        simp only [tl] at this
        rw [← this]
    have : f2 joinT (w6 t P' [] a b c) [.v (.str ""), .p 1 []] = joinL "" (P'.map T.str) := rfl
    simp only [this, jj]
    rfl
  refine fn_ret (b := b_write_value) rfl ((congrFun (congrArg Bl.sem write_is) _).trans ((b_nx s1).trans ((b_nx s2).trans ((b_nx (s_while.trans q1)).trans (b_ret (s_ret jn)))))) ?_ ?_
  · simp only [back, him]
    rfl
  · show ((t.imm || _) && true) = true
    rw [him]; rfl
end K83
set_option Elab.async false
set_option linter.all false
set_option maxRecDepth 100000
set_option maxHeartbeats 400000
/-! k83: read_value, _law_reads. -/
namespace K83
open PySem L2 Pv
abbrev r2 (s : Str) (x : Option T) : Rho := [some (.str s), x]
theorem rv_len {s : Str} (hz : s.length ≤ sizeLine) : (bCmp .Gt (eLen (eVar 0)) (eGlob "DOSSIER_MOST" (.int 400000))).sem (r2 s none) = .ok (decide ((400000 : Int) < (s.length : Int))) (r2 s none) false := by
  have el : (eLen (eVar 0)).sem (r2 s none) = .ok (.v (.int s.length)) (r2 s none) false := e_len_s (o := .v (.str s)) rfl rfl rfl hz
  exact b_cmp (τ2 := false) (o2 := .v (.int 400000)) (y := .int 400000) el rfl rfl rfl rfl rfl rfl
theorem read_long {s : Str} (hz : s.length ≤ sizeLine) (h : 400000 < s.length) : φ_read_value [.str s] = .ex 1 (.int 400000) [some (.str s)] := by
  have c := rv_len hz
  rw [decide_eq_true (by omega)] at c
  exact fn_ex rfl (b_ex ((i_t c).trans (b_ex (a := sRaise 1 "TooLarge" (eGlob "DOSSIER_MOST" (.int 400000))) (c := 1) (t := .int 400000) (ρ1 := r2 s none) rfl))) rfl rfl
theorem rv_parts {s : Str} {t : T} (h : φ_read_parts [.str s] = .ok t [some (.str s)]) : (sSet (gN 1) (eCall F_read_parts (xs [(eVar 0)]))).sem (r2 s none) = .nx (r2 s (some t)) :=
  s_set (ρ1 := r2 s none) (t := t) (e_call (ρ1 := r2 s none) (τ := false) (os := [.v (.str s)]) (ts := [.str s]) rfl rfl rfl rfl h rfl) rfl
theorem rv_raise {s : Str} {x : Option T} : (blk [sRaise 0 "BadText" (eInt 1)]).sem (r2 s x) = .ex 0 (.int 1) (r2 s x) := rfl
theorem rv_wr {s : Str} {t : T} (h : Ok 60 t) (hw : (W t).length ≤ 900000) (hs : lowS s) (hlow : ∀ c ∈ W t, c < 0x110000) : (bCmp .NotEq (eCall F_write_value (xs [(eIx (eVar 1) (eInt 0))])) (eVar 0)).sem (r2 s (some (.lst [t]))) = .ok (!decide (W t = tl s)) (r2 s (some (.lst [t]))) false := by
  have him := ok_imm t 60 h
  have ix : (eIx (eVar 1) (eInt 0)).sem (r2 s (some (.lst [t]))) = .ok (.v t) (r2 s (some (.lst [t]))) false := by
    refine e_ix (τ1 := false) (τ2 := false) (o1 := .p 1 []) (o2 := .v (.int 0)) (x := .lst [t]) (y := .int 0) rfl rfl rfl rfl rfl rfl ?_
    show itemO (.p 1 []) 0 t = _
    unfold itemO
    rw [if_pos him]
  have cl : (eCall F_write_value (xs [(eIx (eVar 1) (eInt 0))])).sem (r2 s (some (.lst [t]))) = .ok (.v (.str (tx (W t)))) (r2 s (some (.lst [t]))) false :=
    e_call (ρ1 := r2 s (some (.lst [t]))) (τ := false) (os := [.v t]) (ts := [t]) (evc (τ1 := false) (τ2 := false) ix evn) rfl rfl rfl (write_value_ok h hw) rfl
  refine b_cmp (τ2 := false) (o2 := .v (.str s)) (y := .str s) cl rfl rfl rfl rfl rfl ?_
  show (eqT _ _).map (!·) = _
  rw [eq_str (by simpa using hlow) hs.1, str_beq]
  simp [tx, tl]
mutual
theorem W_low : ∀ (t : T) (k : Nat), Ok k t → ∀ c ∈ W t, c < 0x110000
  | .non, _, _, c, h => by simp [W] at h; omega
  | .int i, _, _, c, h => by
    have := wInt_isw i c h
    unfold isw at this
    simp only [Bool.or_eq_true, Bool.and_eq_true, decide_eq_true_eq, beq_iff_eq] at this
    omega
  | .str x, k, ho, c, h => by
    obtain ⟨h1, _⟩ := okStr_all (s := x) (by cases k <;> simpa only [Ok] using ho)
    simp only [W, List.mem_cons, List.mem_append, List.not_mem_nil, or_false] at h
    rcases h with h | h | h
    · omega
    · have := (h1 c h).1
      unfold okc at this
      simp only [Bool.and_eq_true, decide_eq_true_eq] at this
      omega
    · omega
  | .tup ts, 0, ho, c, h => by simp only [Ok] at ho
  | .tup ts, k + 1, ho, c, h => by
    simp only [Ok] at ho
    simp only [W, List.mem_cons, List.mem_append, List.not_mem_nil, or_false] at h
    rcases h with h | h | h
    · omega
    · exact Ws_low ts k ho c h
    · omega
  | .bl _, k, h, _, _ => by cases k <;> simp only [Ok] at h
  | .lst _, k, h, _, _ => by cases k <;> simp only [Ok] at h
  | .fro _, k, h, _, _ => by cases k <;> simp only [Ok] at h
theorem Ws_low : ∀ (ts : List T) (k : Nat), Oks k ts → ∀ c ∈ Ws ts, c < 0x110000
  | [], _, _, c, h => by cases h
  | t :: ts, k, ho, c, h => by
    simp only [Oks] at ho
    simp only [Ws, List.mem_append] at h
    rcases h with h | h
    · exact W_low t k ho.1 c h
    · exact Wr_low ts k ho.2 c h
theorem Wr_low : ∀ (ts : List T) (k : Nat), Oks k ts → ∀ c ∈ Wr ts, c < 0x110000
  | [], _, _, c, h => by cases h
  | t :: ts, k, ho, c, h => by
    simp only [Oks] at ho
    simp only [Wr, List.mem_cons, List.mem_append] at h
    rcases h with h | h | h
    · omega
    · exact W_low t k ho.1 c h
    · exact Wr_low ts k ho.2 c h
end
theorem rv_cnt {s : Str} {ts : List T} : (bCmp .NotEq (eLen (eVar 1)) (eInt 1)).sem (r2 s (some (.lst ts))) = .ok (!decide (ts.length = 1)) (r2 s (some (.lst ts))) false := by
  have : (bCmp .NotEq (eLen (eVar 1)) (eInt 1)).sem (r2 s (some (.lst ts))) = .ok (!((ts.length : Int) == 1)) (r2 s (some (.lst ts))) false := rfl
  rw [this]
  congr 2
  by_cases h : ts.length = 1
  · rw [h]; rfl
  · rw [decide_eq_false h]; simpa using fun z => h (by omega)
/-- a text that the writer writes is read back -/
theorem read_good {s : Str} (hs : lowS s) {t : T} (h : Ok 60 t) (e : tl s = W t) : φ_read_value [.str s] = .ok t [some (.str s)] := by
  have him := ok_imm t 60 h
  have hw : (W t).length ≤ 900000 := by rw [← e]; have := hs.2; have : (tl s).length = s.length := len_list s; omega
  have c := rv_len (low_line hs)
  rw [decide_eq_false (by have := hs.2; omega)] at c
  have p := rv_parts (read_parts_W hs h e)
  have c1 : (bCmp .Is (eVar 1) eNon).sem (r2 s (some (.lst [t]))) = .ok false (r2 s (some (.lst [t]))) false := rfl
  have c2 := rv_cnt (s := s) (ts := [t])
  have c3 := rv_wr h hw hs (W_low t 60 h)
  rw [decide_eq_true e.symm] at c3
  have ix : (eIx (eVar 1) (eInt 0)).sem (r2 s (some (.lst [t]))) = .ok (.v t) (r2 s (some (.lst [t]))) false := by
    refine e_ix (τ1 := false) (τ2 := false) (o1 := .p 1 []) (o2 := .v (.int 0)) (x := .lst [t]) (y := .int 0) rfl rfl rfl rfl rfl rfl ?_
    show itemO (.p 1 []) 0 t = _
    unfold itemO
    rw [if_pos him]
  exact fn_ret rfl ((b_nx ((i_f c).trans rfl)).trans ((b_nx p).trans ((b_nx ((i_f (or_f (τ := false) (τ2 := false) c1 (or_f (τ := false) (τ2 := false) c2 (or_1.trans c3)))).trans rfl)).trans (b_ret (s_ret ix))))) rfl rfl
/-- a text that no value has is refused -/
theorem read_bad {s : Str} (hs : lowS s) (h : acc (tl s) = false) : φ_read_value [.str s] = .ex 0 (.int 1) [some (.str s)] := by
  have c := rv_len (low_line hs)
  rw [decide_eq_false (by have := hs.2; omega)] at c
  rcases read_parts_any hs with r | ⟨ts, r, ho, hl⟩
  · have c1 : (bCmp .Is (eVar 1) eNon).sem (r2 s (some .non)) = .ok true (r2 s (some .non)) false := rfl
    exact fn_ex rfl ((b_nx ((i_f c).trans rfl)).trans ((b_nx (rv_parts r)).trans (b_ex ((i_t (or_t c1)).trans rv_raise)))) rfl rfl
  · have c1 : (bCmp .Is (eVar 1) eNon).sem (r2 s (some (.lst ts))) = .ok false (r2 s (some (.lst ts))) false := rfl
    have c2 := rv_cnt (s := s) (ts := ts)
    by_cases h1 : ts.length = 1
    · rw [decide_eq_true h1] at c2
      obtain ⟨t, rfl⟩ := List.length_eq_one_iff.mp h1
      simp only [Oks] at ho
      simp only [wsum] at hl
      have hw : (W t).length ≤ 900000 := by have := hs.2; have : s.cps.toList.length = s.length := len_list s; omega
      have c3 := rv_wr ho.1 hw hs (W_low t 60 ho.1)
      rw [decide_eq_false (fun z => by have := acc_W ho.1; rw [z, h] at this; cases this)] at c3
      exact fn_ex rfl ((b_nx ((i_f c).trans rfl)).trans ((b_nx (rv_parts r)).trans (b_ex ((i_t (or_f (τ := false) (τ2 := false) c1 (or_f (τ := false) (τ2 := false) c2 (or_1.trans c3)))).trans rv_raise)))) rfl rfl
    · rw [decide_eq_false h1] at c2
      exact fn_ex rfl ((b_nx ((i_f c).trans rfl)).trans ((b_nx (rv_parts r)).trans (b_ex ((i_t (or_f (τ := false) (τ2 := false) c1 (or_t c2))).trans rv_raise)))) rfl rfl
theorem x_ex {a : Ex} {ρ ρ1 : Rho} {c : Nat} {t : T} (h : a.sem ρ = .ex c t ρ1) : (sExpr a).sem ρ = .ex c t ρ1 := by
  show exprS a.sem ρ = _
  unfold exprS; rw [h]
theorem x_nx {a : Ex} {ρ ρ1 : Rho} {o : O} {τ : Bool} (h : a.sem ρ = .ok o ρ1 τ) : (sExpr a).sem ρ = .nx ρ1 := by
  show exprS a.sem ρ = _
  unfold exprS; rw [h]
theorem tr_nx {c i : Nat} {cn f : Str} {op : CmpOp} {body : Bl} {b : Ex} {ρ ρ1 : Rho} (h : body.sem ρ = .nx ρ1) : (sTryRet c cn i f op body b).sem ρ = .nx ρ1 := by
  show tryRetS c i op body.sem b.sem ρ = _
  unfold tryRetS; rw [h]
theorem tr_ex {c i : Nat} {cn f : Str} {op : CmpOp} {body : Bl} {b : Ex} {ρ ρ1 ρ2 : Rho} {t r : T} {o : O} {τ : Bool} (h : body.sem ρ = .ex c t ρ1) (hi : i < ρ1.length) (hb : b.sem (ρ1.set i none) = .ok o ρ2 τ) (hr : f2 (cmpV op) ρ2 [.v t, o] = some r) : (sTryRet c cn i f op body b).sem ρ = .ret r ρ2 := by
  show tryRetS c i op body.sem b.sem ρ = _
  unfold tryRetS; rw [h]; simp only; rw [if_pos ⟨trivial, hi⟩, hb]; simp only; rw [hr]
theorem reads_good {s : Str} (hs : lowS s) {t : T} (h : Ok 60 t) (e : tl s = W t) : φ_law_reads [.str s] = .ok (.bl true) [some (.str s)] := by
  have cl : (eCall F_read_value (xs [(eVar 0)])).sem [some (.str s), none] = .ok (.v t) [some (.str s), none] false :=
    e_call (ρ1 := [some (.str s), none]) (τ := false) (os := [.v (.str s)]) (ts := [.str s]) rfl rfl rfl rfl (read_good hs h e) rfl
  have bd : (blk [sExpr (eCall F_read_value (xs [(eVar 0)]))]).sem [some (.str s), none] = .nx [some (.str s), none] := by
    exact (b_nx (x_nx cl)).trans b_nil
  exact fn_ret rfl ((b_nx (tr_nx bd)).trans (b_ret (s_ret rfl))) rfl rfl
theorem reads_bad {s : Str} (hs : lowS s) (h : acc (tl s) = false) : φ_law_reads [.str s] = .ok (.bl false) [some (.str s)] := by
  have cl : (eCall F_read_value (xs [(eVar 0)])).sem [some (.str s), none] = .ex 0 (.int 1) [some (.str s), none] :=
    e_call_ex (ρ1 := [some (.str s), none]) (τ := false) (os := [.v (.str s)]) (ts := [.str s]) rfl rfl rfl rfl (read_bad hs h) rfl
  have bd : (blk [sExpr (eCall F_read_value (xs [(eVar 0)]))]).sem [some (.str s), none] = .ex 0 (.int 1) [some (.str s), none] := by
    exact b_ex (x_ex cl)
  exact fn_ret (ρ := [some (.str s), none]) rfl (b_ret (tr_ex (τ := false) (o := .v (.int 1)) (ρ2 := [some (.str s), none]) (r := .bl false) bd (by show 1 < 2; decide) rfl rfl)) rfl rfl
end K83
set_option Elab.async false
set_option linter.all false
set_option maxRecDepth 100000
set_option maxHeartbeats 400000
/-! k83: ==, _law_written, _law_is_plain, _law_nested. -/
namespace K83
open PySem L2 Pv
mutual
theorem ok_lay : ∀ (t : T) (k : Nat), Ok k t → PyData.canLay0 t.toD = true ∧ PyData.depth t.toD ≤ k + 1 ∧ PyData.eqv t.toD t.toD = true
  | .non, _, _ => ⟨rfl, Nat.zero_le _, rfl⟩
  | .int i, _, _ => ⟨rfl, Nat.zero_le _, by simp [T.toD, PyData.eqv]⟩
  | .str s, k, h => by
    obtain ⟨h1, _⟩ := okStr_all (s := s) (by cases k <;> simpa only [Ok] using h)
    refine ⟨?_, Nat.zero_le _, by simp [T.toD, PyData.eqv]⟩
    show PyData.strOk s = true
    unfold PyData.strOk
    rw [← Array.all_toList, List.all_eq_true]
    intro c hc
    have := (h1 c hc).1
    unfold okc at this
    simp only [Bool.and_eq_true, decide_eq_true_eq] at this
    exact decide_eq_true (by omega)
  | .tup ts, 0, h => by simp only [Ok] at h
  | .tup ts, k + 1, h => by
    simp only [Ok] at h
    obtain ⟨h1, h2, h3⟩ := oks_lay ts k h
    refine ⟨h1, ?_, h3⟩
    show PyData.depthAll (T.toDs ts) + 1 ≤ _
    omega
  | .bl _, k, h => by cases k <;> simp only [Ok] at h
  | .lst _, k, h => by cases k <;> simp only [Ok] at h
  | .fro _, k, h => by cases k <;> simp only [Ok] at h
theorem oks_lay : ∀ (ts : List T) (k : Nat), Oks k ts → PyData.canLayAll0 (T.toDs ts) = true ∧ PyData.depthAll (T.toDs ts) ≤ k + 1 ∧ PyData.eqvAll (T.toDs ts) (T.toDs ts) = true
  | [], _, _ => ⟨rfl, Nat.zero_le _, rfl⟩
  | t :: ts, k, h => by
    simp only [Oks] at h
    obtain ⟨a1, a2, a3⟩ := ok_lay t k h.1
    obtain ⟨b1, b2, b3⟩ := oks_lay ts k h.2
    refine ⟨?_, ?_, ?_⟩
    · show (PyData.canLay0 t.toD && PyData.canLayAll0 (T.toDs ts)) = true
      rw [a1, b1]; rfl
    · show max (PyData.depth t.toD) (PyData.depthAll (T.toDs ts)) ≤ _
      omega
    · show (PyData.eqv t.toD t.toD && PyData.eqvAll (T.toDs ts) (T.toDs ts)) = true
      rw [a3, b3]; rfl
end
theorem eq_self {t : T} {k : Nat} (h : Ok k t) (hk : k ≤ 63) : eqT t t = some true := by
  obtain ⟨h1, h2, h3⟩ := ok_lay t k h
  have s : SeqAt.shaped t.toD = true := by
    unfold SeqAt.shaped
    rw [h1, decide_eq_true (by omega)]; rfl
  unfold eqT
  rw [if_pos ⟨s, s⟩, h3]
/-! ### a comprehension over items, nothing else -/
theorem lc_map {set : T → Rho → Option Rho} {tt : Rho → RB} {te : Rho → R} {vs : List Nat} {ρ : Rho} {f : T → T} : ∀ (items acc : List T), (∀ t ∈ items, ∃ ρ1 ρ3, set t ρ = some ρ1 ∧ tt ρ1 = .ok true ρ1 false ∧ te ρ1 = .ok (.v (f t)) ρ3 false ∧ wipeR ρ3 vs = ρ) → acc.length + items.length ≤ sizeLine →
    lcF set tt te vs items acc ρ false = .ok (acc ++ items.map f) ρ false
  | [], acc, _, _ => by rw [List.map_nil, List.append_nil]; rfl
  | t :: ts, acc, h, hl => by
    obtain ⟨ρ1, ρ3, h1, h2, h3, h4⟩ := h t List.mem_cons_self
    simp only [List.length_cons] at hl
    simp only [lcF, h1, h2, h3, if_true]
    rw [if_pos (by omega), h4]
    have := lc_map ts (acc ++ [f t]) (fun x hx => h x (List.mem_cons_of_mem _ hx)) (by rw [List.length_append]; simp; omega)
    simp only [Bool.or_false]
    rw [this]
    simp
/-! ### _law_written -/
theorem tl_join1 : ∀ (ts : List T), tl (Txt.join " " (ts.map fun t => tx (W t))) = Ws ts := by
  intro ts
  rw [TL.join_eq]
  have e : tl " " = [32] := by decide +kernel
  induction ts with
  | nil => rfl
  | cons t r ih =>
    cases r with
    | nil => simp [Str.join, Ws, Wr, tl, tx]
    | cons z r =>
      have e2 : tl (Str.join " " (tx (W t) :: tx (W z) :: r.map fun t => tx (W t))) = tl (tx (W t)) ++ (tl " " ++ tl (Str.join " " (tx (W z) :: r.map fun t => tx (W t)))) := by
        show tl (tx (W t) ++ " " ++ Str.join " " (tx (W z) :: r.map fun t => tx (W t))) = _
        rw [tl_add, tl_add, List.append_assoc]
      have e3 : tl (tx (W t)) = W t := by simp [tl, tx]
      simp only [List.map_cons] at ih ⊢
      rw [e2, ih, e, e3]
      simp [Ws, Wr]
theorem tx_tl (s : Str) : tx (tl s) = s := by cases s; simp [tx, tl]
theorem tl_tx (l : List Nat) : tl (tx l) = l := by simp [tx, tl]
theorem str_tl {x y : Str} (h : tl x = tl y) : x = y := by rw [← tx_tl x, ← tx_tl y, h]
theorem len_tl (s : Str) : (tl s).length = s.length := len_list s
theorem W_mem : ∀ {ts : List T} {t : T}, t ∈ ts → (W t).length ≤ (Ws ts).length := by
  have r : ∀ {ts : List T} {t : T}, t ∈ ts → (W t).length ≤ (Wr ts).length := fun {ts t} h => by
    induction ts with
    | nil => cases h
    | cons a ts ih =>
      simp only [Wr, List.length_cons, List.length_append]
      rcases List.mem_cons.mp h with rfl | h
      · omega
      · have := ih h; omega
  intro ts t h
  cases ts with
  | nil => cases h
  | cons a ts =>
    simp only [Ws, List.length_append]
    rcases List.mem_cons.mp h with rfl | h
    · omega
    · have := r h; omega
theorem oks_mem : ∀ {ts : List T} {k : Nat} {t : T}, Oks k ts → t ∈ ts → Ok k t
  | a :: ts, k, t, h, m => by
    simp only [Oks] at h
    rcases List.mem_cons.mp m with rfl | m
    · exact h.1
    · exact oks_mem h.2 m
theorem strs_W (ts : List T) : strsOf (ts.map fun t => T.str (tx (W t))) = some (ts.map fun t => tx (W t)) := by
  have := strsOf_map (ts.map fun t => tx (W t))
  rwa [List.map_map] at this
theorem sum_W : ∀ (ts : List T), ((ts.map fun t => tx (W t)).map (·.length)).sum + ts.length ≤ (Ws ts).length + 1 := by
  have r : ∀ (ts : List T), ((ts.map fun t => tx (W t)).map (·.length)).sum + ts.length ≤ (Wr ts).length := fun ts => by
    induction ts with
    | nil => exact Nat.le_refl _
    | cons t ts ih =>
      have : (tx (W t)).length = (W t).length := by rw [← len_tl, tl_tx]
      simp only [List.map_cons, List.sum_cons, List.length_cons, Wr, List.length_append]
      omega
  intro ts
  cases ts with
  | nil => exact Nat.zero_le _
  | cons t ts =>
    have := r ts
    have : (tx (W t)).length = (W t).length := by rw [← len_tl, tl_tx]
    simp only [List.map_cons, List.sum_cons, List.length_cons, Ws, List.length_append]
    omega
theorem q_tl : tl "\"" = [34] := by decide +kernel
theorem written_ok : ∀ (n k : Nat) (t : T), Ok k t → k < n → (W t).length ≤ 900000 → φ_law_written n [t] = .ok (.str (tx (W t))) [some t]
  | 0, k, t, _, hk, _ => by omega
  | n + 1, k, t, ho, hk, hl => by
    have him := ok_imm t k ho
    have v0 : (eVar 0).sem [some t, none] = .ok (.v t) [some t, none] false := v_imm rfl him
    have cal : calmArgs (b_law_written (F_law_written_at n)).asg 0 [t] = true := by
      show ((t.imm || _) && true) = true
      rw [him]; rfl
    have ret : ∀ {s : Str} {ρ : Rho}, (b_law_written (F_law_written_at n)).sem [some t, none] = .ret (.str s) ρ → φ_law_written (n + 1) [t] = .ok (.str s) [some t] := fun {s ρ} h => by
      refine fn_ret (b := b_law_written (F_law_written_at n)) rfl h ?_ cal
      simp only [back, him]; rfl
    cases t with
    | non =>
      have c1 : (bCmp .Is (eVar 0) eNon).sem [some .non, none] = .ok true [some .non, none] false := rfl
      have e : tx (W .non) = "-" := str_tl (by rw [tl_tx]; decide +kernel)
      rw [e]
      exact ret (b_ret ((i_t c1).trans (b_ret (s_ret rfl))))
    | int i =>
      have hi : i.natAbs < BIG := by cases k <;> simpa only [Ok] using ho
      have c1 : (bCmp .Is (eVar 0) eNon).sem [some (.int i), none] = .ok false [some (.int i), none] false := rfl
      have c2 : (bTruth (eIs (eVar 0) .str)).sem [some (.int i), none] = .ok false [some (.int i), none] false := rfl
      have c3 : (bTruth (eIs (eVar 0) .tuple)).sem [some (.int i), none] = .ok false [some (.int i), none] false := rfl
      have st : (eStrOf (eVar 0)).sem [some (.int i), none] = .ok (.v (.str (Str.ofString (toString i)))) [some (.int i), none] false := by
        show opSem [(eVar 0).sem] (f1 strOfT) [some (.int i), none] = _
        unfold opSem
        rw [ev1 (o1 := .v (.int i)) (ρ1 := [some (.int i), none]) (τ1 := false) rfl rfl]
        simp only [f1, getO, strOfT, if_pos (big_4300 hi)]
      have e : tx (W (.int i)) = Str.ofString (toString i) := str_tl (by rw [tl_tx]; rfl)
      rw [e]
      exact ret ((b_nx ((i_f c1).trans rfl)).trans ((b_nx ((i_f c2).trans rfl)).trans ((b_nx ((i_f c3).trans rfl)).trans (b_ret (s_ret st)))))
    | str x =>
      obtain ⟨h1, h2⟩ := okStr_all (s := x) (by cases k <;> simpa only [Ok] using ho)
      have hx : x.length ≤ 6400 := by rw [← len_list]; exact h2
      have q1 : ("\"" : Str).length = 1 := by decide +kernel
      have c1 : (bCmp .Is (eVar 0) eNon).sem [some (.str x), none] = .ok false [some (.str x), none] false := rfl
      have c2 : (bTruth (eIs (eVar 0) .str)).sem [some (.str x), none] = .ok true [some (.str x), none] false := rfl
      have a1 : (eBin .Add (eStr "\"") (eVar 0)).sem [some (.str x), none] = .ok (.v (.str ("\"" ++ x))) [some (.str x), none] false :=
        e_bin (τ1 := false) (τ2 := false) (o1 := .v (.str "\"")) (o2 := .v (.str x)) (x := .str "\"") (y := .str x) rfl rfl rfl rfl rfl rfl (if_pos (by rw [q1, sizeLine_eq]; omega))
      have a2 : (eBin .Add (eBin .Add (eStr "\"") (eVar 0)) (eStr "\"")).sem [some (.str x), none] = .ok (.v (.str ("\"" ++ x ++ "\""))) [some (.str x), none] false :=
        e_bin (τ2 := false) (o2 := .v (.str "\"")) (y := .str "\"") a1 rfl rfl rfl rfl rfl (if_pos (by rw [addS_len, q1, sizeLine_eq]; omega))
      have e : tx (W (.str x)) = "\"" ++ x ++ "\"" := str_tl (by rw [tl_tx, tl_add, tl_add, q_tl]; simp [W, tl])
      rw [e]
      exact ret ((b_nx ((i_f c1).trans rfl)).trans (b_ret ((i_t c2).trans (b_ret (s_ret a2)))))
    | tup ts =>
      cases k with
      | zero => simp only [Ok] at ho
      | succ k =>
        simp only [Ok] at ho
        have lw : (W (.tup ts)).length = (Ws ts).length + 2 := by simp [W]
        rw [lw] at hl
        have c1 : (bCmp .Is (eVar 0) eNon).sem [some (.tup ts), none] = .ok false [some (.tup ts), none] false := b_cmp (τ2 := false) (o2 := .v .non) v0 rfl rfl rfl rfl rfl rfl
        have is : ∀ (ty : Ty) (b : Bool), Ty.is ty (.tup ts) = b → (bTruth (eIs (eVar 0) ty)).sem [some (.tup ts), none] = .ok b [some (.tup ts), none] false := fun ty b h => by
          refine b_tru (o := .v (.bl b)) (t := .bl b) ?_ rfl rfl
          show opSem [(eVar 0).sem] (f1 (isT ty)) [some (.tup ts), none] = _
          unfold opSem
          rw [ev1 v0 rfl]
          simp only [f1, getO, isT, h]
        have c2 := is .str false rfl
        have c3 := is .tuple true rfl
        have it : (iSeq (eVar 0)).sem [some (.tup ts), none] = .ok ts [some (.tup ts), none] false false := by
          show iLift (eVar 0).sem seqI _ = _
          unfold iLift
          rw [v0]
          simp only [seqI, getO, if_pos him]
          have : T.imms ts = true := him
          rw [if_pos this]
        have lts : ts.length ≤ (Ws ts).length + 1 := by have := sum_W ts; omega
        have lc : (eLc ⟨[1], (gN 1), (iSeq (eVar 0)), none, (eCall (F_law_written_at n) (xs [(eVar 1)]))⟩).sem [some (.tup ts), none] = .ok (.v (.lst (ts.map fun t => T.str (tx (W t))))) [some (.tup ts), none] false := by
          show lcSem (iSeq (eVar 0)).sem (gN 1).sem (fun ρ => .ok true ρ false) (eCall (F_law_written_at n) (xs [(eVar 1)])).sem [1] [some (.tup ts), none] = _
          unfold lcSem
          rw [it]
          simp only
          rw [if_pos (show calmAt [some (T.tup ts), none] [1] = true from rfl)]
          have m := lc_map (set := (gN 1).sem) (tt := fun ρ => .ok true ρ false) (te := (eCall (F_law_written_at n) (xs [(eVar 1)])).sem) (vs := [1]) (ρ := [some (.tup ts), none]) (f := fun t => T.str (tx (W t))) ts [] (fun t ht => by
            have okt := oks_mem ho ht
            have imt := ok_imm t k okt
            refine ⟨[some (.tup ts), some t], [some (.tup ts), some t], rfl, rfl, ?_, rfl⟩
            have v1 : (eVar 1).sem [some (.tup ts), some t] = .ok (.v t) [some (.tup ts), some t] false := v_imm rfl imt
            have ih := written_ok n k t okt (by omega) (by have := W_mem ht; omega)
            exact e_call (F := F_law_written_at n) (ρ1 := [some (.tup ts), some t]) (τ := false) (os := [.v t]) (ts := [t]) (evc (τ1 := false) (τ2 := false) v1 evn) rfl rfl rfl ih rfl) (by rw [sizeLine_eq]; simp; omega)
          rw [show wipeR [some (T.tup ts), none] [1] = [some (T.tup ts), none] from rfl, m]
          rfl
        have jn : (eJoin (eStr " ") (eLc ⟨[1], (gN 1), (iSeq (eVar 0)), none, (eCall (F_law_written_at n) (xs [(eVar 1)]))⟩)).sem [some (.tup ts), none] = .ok (.v (.str (tx (Ws ts)))) [some (.tup ts), none] false := by
          show opSem [kindSem isStr (eStr " ").sem, (eLc ⟨[1], (gN 1), (iSeq (eVar 0)), none, (eCall (F_law_written_at n) (xs [(eVar 1)]))⟩).sem] (f2 joinT) _ = _
          unfold opSem
          rw [ev2 (o1 := .v (.str " ")) (ρ1 := [some (.tup ts), none]) (τ1 := false) rfl lc rfl rfl]
          have jj : joinL " " (ts.map fun t => T.str (tx (W t))) = some (.str (tx (Ws ts))) := by
            unfold joinL
            rw [strs_W]
            have l1 : (" " : Str).length = 1 := by decide +kernel
            simp only
            rw [if_pos (by have := sum_W ts; rw [l1, List.length_map]; omega)]
            congr 2
            exact str_tl (by rw [tl_join1, tl_tx])
          have : f2 joinT [some (.tup ts), none] [.v (.str " "), .v (.lst (ts.map fun t => T.str (tx (W t))))] = joinL " " (ts.map fun t => T.str (tx (W t))) := rfl
          simp only [this, jj]
          rfl
        have l2 : (tx (Ws ts)).length = (Ws ts).length := by rw [← len_tl, tl_tx]
        have p1 : ("(" : Str).length = 1 := by decide +kernel
        have p2 : (")" : Str).length = 1 := by decide +kernel
        have a1 := e_bin (op := .Add) (a := eStr "(") (τ1 := false) (ρ := [some (.tup ts), none]) (ρ1 := [some (.tup ts), none]) (o1 := .v (.str "(")) (x := .str "(") (z := .str ("(" ++ tx (Ws ts))) rfl jn rfl rfl rfl rfl (if_pos (by rw [p1, l2, sizeLine_eq]; omega))
        have a2 := e_bin (op := .Add) (b := eStr ")") (τ2 := false) (o2 := .v (.str ")")) (y := .str ")") (z := .str ("(" ++ tx (Ws ts) ++ ")")) a1 rfl rfl rfl rfl rfl (if_pos (by rw [addS_len, p1, l2, p2, sizeLine_eq]; omega))
        have e : tx (W (.tup ts)) = "(" ++ tx (Ws ts) ++ ")" := str_tl (by
          have t1 : tl "(" = [40] := by decide +kernel
          have t2 : tl ")" = [41] := by decide +kernel
          rw [tl_tx, tl_add, tl_add, t1, t2, tl_tx]; simp [W])
        rw [e]
        exact ret ((b_nx ((i_f c1).trans rfl)).trans ((b_nx ((i_f c2).trans rfl)).trans (b_ret ((i_t c3).trans (b_ret (s_ret a2))))))
    | bl b => cases k <;> simp only [Ok] at ho
    | lst b => cases k <;> simp only [Ok] at ho
    | fro b => cases k <;> simp only [Ok] at ho
end K83
set_option Elab.async false
set_option linter.all false
set_option maxRecDepth 100000
set_option maxHeartbeats 400000
/-! k83: _law_is_plain, _law_nested. -/
namespace K83
open PySem L2 Pv
theorem s_ext {i : Nat} {a : Ex} {ρ : Rho} {ts us : List T} (h : ρ[i]? = some (some (.lst ts))) (ha : a.sem ρ = .ok (.v (.lst us)) ρ false) (hl : ts.length + us.length ≤ sizeLine) :
    (sExpr (eExtend (eVar i) a)).sem ρ = .nx (ρ.set i (some (.lst (ts ++ us)))) := by
  show exprS (effSem 2 [kindSem isLst (eVar i).sem, a.sem] extendF) ρ = _
  have th : O.there ρ (.p i []) = true := by simp only [O.there, h]
  unfold exprS effSem
  rw [ev2 (k_lst h) ha (by simp [th, O.deep]) rfl]
  simp only [getOs, getO, h, T.at]
  rw [if_pos ⟨rfl, rfl⟩]
  simp only [extendF, if_pos hl, effFin, wb, h, T.put]
theorem rg1 {a : Ex} {ρ ρ1 : Rho} {j : Int} {τ : Bool} (h : a.sem ρ = .ok (.v (.int j)) ρ1 τ) (hj : small62 j = true) : (iRange1 a).sem ρ = .ok (rangeL 0 j) ρ1 τ false := by
  show rngSem [a.sem] rng1F ρ = _
  unfold rngSem
  rw [evc h evn]
  simp only [getOs, getO, rng1F, if_pos hj, Bool.or_false]
theorem is_int_ok (i : Int) : φ_law_is_int [.int i] = .ok (.bl true) [some (.int i)] := fn_ret rfl (b_ret (s_ret rfl)) rfl rfl
def ipB : List Sx := [sIf (bCmp .Eq (eLen (eVar 1)) (eInt 0)) (blk [sRet (eBl true)]) (blk []),
  sSet (gN 3) (ePop (eVar 1)),
  sIf (bTruth (eIs (eVar 3) .tuple)) (blk [sExpr (eExtend (eVar 1) (eList (eVar 3)))]) (blk [sIf (bNot (bOr [(bCmp .Is (eVar 3) eNon), (bTruth (eIs (eVar 3) .str)), (bTruth (eCall F_law_is_int (xs [(eVar 3)])))])) (blk [sRet (eBl false)]) (blk [])])]
theorem nds_app : ∀ (a b : List T), nds (a ++ b) = nds a + nds b
  | [], b => by simp [nds]
  | t :: a, b => by simp only [List.cons_append, nds, nds_app a b]; omega
theorem nd_pos (t : T) : 0 < nd t := by cases t <;> simp [nd]
theorem nds_len : ∀ (a : List T), a.length ≤ nds a
  | [] => Nat.le_refl _
  | t :: a => by have := nds_len a; have := nd_pos t; simp only [List.length_cons, nds]; omega
def anyOk (ts : List T) : Prop := ∀ t ∈ ts, ∃ k, Ok k t
theorem ip_loop (v : T) : ∀ (items pend : List T) (x y : Option T), anyOk pend → nds pend < items.length → items.length ≤ 200000 → ∃ ρ, forF (gN 2).sem (blk ipB).sem items [some v, some (.lst pend), x, y] = .ret (.bl true) ρ
  | [], pend, x, y, _, h, _ => by simp at h
  | it :: items, pend, x, y, ok, hn, hit => by
    simp only [List.length_cons] at hn hit
    have c1 : (bCmp .Eq (eLen (eVar 1)) (eInt 0)).sem [some v, some (.lst pend), some it, y] = .ok ((pend.length : Int) == 0) [some v, some (.lst pend), some it, y] false := rfl
    rcases List.eq_nil_or_concat pend with rfl | ⟨pre, t, rfl⟩
    · exact ⟨_, f_ret (ρ1 := [some v, some (.lst []), some it, y]) rfl (b_ret ((i_t c1).trans (b_ret (s_ret rfl))))⟩
    rw [List.concat_eq_append] at *
    rw [show (((pre ++ [t]).length : Int) == 0) = false by simp; omega] at c1
    obtain ⟨k, okt⟩ := ok t (by simp)
    have okp : anyOk pre := fun z hz => ok z (List.mem_append_left _ hz)
    rw [nds_app] at hn
    simp only [nds] at hn
    have him := ok_imm t k okt
    have pop : (sSet (gN 3) (ePop (eVar 1))).sem [some v, some (.lst (pre ++ [t])), some it, y] = .nx [some v, some (.lst pre), some it, some t] := by
      refine s_set (ρ1 := [some v, some (.lst pre), some it, y]) (τ := true) (t := t) ?_ rfl
      have := e_pop (i := 1) (ρ := [some v, some (.lst (pre ++ [t])), some it, y]) (ts := pre ++ [t]) (t := t) rfl (by simp)
      rw [this, List.dropLast_concat]
      rfl
    let ρ1 : Rho := [some v, some (.lst pre), some it, some t]
    have v3 : (eVar 3).sem ρ1 = .ok (.v t) ρ1 false := v_imm rfl him
    have go : ∀ {pend' : List T}, anyOk pend' → nds pend' < items.length → (sIf (bTruth (eIs (eVar 3) .tuple)) (blk [sExpr (eExtend (eVar 1) (eList (eVar 3)))]) (blk [sIf (bNot (bOr [(bCmp .Is (eVar 3) eNon), (bTruth (eIs (eVar 3) .str)), (bTruth (eCall F_law_is_int (xs [(eVar 3)])))])) (blk [sRet (eBl false)]) (blk [])])).sem ρ1 = .nx [some v, some (.lst pend'), some it, some t] →
        ∃ ρ, forF (gN 2).sem (blk ipB).sem (it :: items) [some v, some (.lst (pre ++ [t])), x, y] = .ret (.bl true) ρ := fun {pend'} o n e => by
      obtain ⟨ρ, q⟩ := ip_loop v items pend' (some it) (some t) o n (by omega)
      exact ⟨ρ, (f_nx (ρ1 := [some v, some (.lst (pre ++ [t])), some it, y]) rfl ((b_nx ((i_f c1).trans rfl)).trans ((b_nx pop).trans ((b_nx e).trans b_nil)))).trans q⟩
    have is : ∀ (ty : Ty) (b : Bool), isT ty t = some (.bl b) → (bTruth (eIs (eVar 3) ty)).sem ρ1 = .ok b ρ1 false := fun ty b h => by
      refine b_tru (o := .v (.bl b)) (t := .bl b) ?_ rfl rfl
      show opSem [(eVar 3).sem] (f1 (isT ty)) ρ1 = _
      unfold opSem
      rw [ev1 v3 rfl]
      simp only [f1, getO, h]
    have cn : (bCmp .Is (eVar 3) eNon).sem ρ1 = .ok (isNon t) ρ1 false := b_cmp (τ2 := false) (o2 := .v .non) v3 rfl rfl rfl rfl rfl rfl
    cases t with
    | non => exact go okp (by simp only [nd] at hn; omega) ((i_f (is .tuple false rfl)).trans ((b_nx ((i_f (b_not (or_t cn))).trans rfl)).trans b_nil))
    | str s => exact go okp (by simp only [nd] at hn; omega) ((i_f (is .tuple false rfl)).trans ((b_nx ((i_f (b_not (or_f (τ := false) (τ2 := false) cn (or_t (is .str true rfl))))).trans rfl)).trans b_nil))
    | int i =>
      have ci : (bTruth (eCall F_law_is_int (xs [(eVar 3)]))).sem ρ1 = .ok true ρ1 false := b_tru (o := .v (.bl true)) (t := .bl true) (e_call (ρ1 := ρ1) (τ := false) (os := [.v (.int i)]) (ts := [.int i]) rfl rfl rfl rfl (is_int_ok i) rfl) rfl rfl
      exact go okp (by simp only [nd] at hn; omega) ((i_f (is .tuple false rfl)).trans ((b_nx ((i_f (b_not (or_f (τ := false) (τ2 := false) cn (or_f (τ := false) (τ2 := false) (is .str false rfl) (or_1.trans ci))))).trans rfl)).trans b_nil))
    | tup ts =>
      have oks : anyOk ts := by
        cases k with
        | zero => simp only [Ok] at okt
        | succ k => simp only [Ok] at okt; exact fun z hz => ⟨k, oks_mem okt hz⟩
      have el : (eList (eVar 3)).sem ρ1 = .ok (.v (.lst ts)) ρ1 false := by
        show opSem [(eVar 3).sem] (f1 listT) ρ1 = _
        unfold opSem
        rw [ev1 v3 rfl]
        have : T.imms ts = true := him
        simp only [f1, getO, listT, this, if_true]
      simp only [nd] at hn
      have e := s_ext (i := 1) (ρ := ρ1) (ts := pre) rfl el (by have := nds_len ts; have := nds_len pre; rw [sizeLine_eq]; omega)
      exact go (pend' := pre ++ ts) (fun z hz => (List.mem_append.mp hz).elim (okp z) (oks z)) (by rw [nds_app]; omega) ((i_t (is .tuple true rfl)).trans ((b_nx e).trans b_nil))
    | bl b => cases k <;> simp only [Ok] at okt
    | lst b => cases k <;> simp only [Ok] at okt
    | fro b => cases k <;> simp only [Ok] at okt
theorem is_plain_law {t : T} {k : Nat} (h : Ok k t) (hn : nd t < 200000) : φ_law_is_plain [t] = .ok (.bl true) [some t] := by
  have him := ok_imm t k h
  have v0 : (eVar 0).sem [some t, none, none, none] = .ok (.v t) [some t, none, none, none] false := v_imm rfl him
  have s1 : (sSet (gN 1) (eLst (xs [(eVar 0)]))).sem [some t, none, none, none] = .nx [some t, some (.lst [t]), none, none] := by
    refine s_set (ρ1 := [some t, none, none, none]) (t := .lst [t]) (τ := false) ?_ rfl
    show opSem [(eVar 0).sem] lstF _ = _
    unfold opSem
    rw [ev1 v0 rfl]
    rfl
  have rg : (iRange1 (eInt 200000)).sem [some t, some (.lst [t]), none, none] = .ok (rangeL 0 200000) [some t, some (.lst [t]), none, none] false false := rg1 rfl (by decide)
  have hl : (rangeL 0 200000).length = 200000 := by unfold rangeL; rw [List.length_map, List.length_range]; rfl
  obtain ⟨ρ, e⟩ := ip_loop t (rangeL 0 200000) [t] none none (fun z hz => by
    have : z = t := by simpa using hz
    subst this; exact ⟨k, h⟩) (by rw [hl]; simp only [nds]; omega) (by rw [hl]; exact Nat.le_refl _)
  refine fn_ret (b := b_law_is_plain) rfl ((b_nx s1).trans (b_ret ((s_for rg).trans e))) ?_ ?_
  · simp only [back, him]; rfl
  · show ((t.imm || _) && true) = true
    rw [him]; rfl
/-! ### _law_nested -/
def nest : Nat → T
  | 0 => .tup []
  | k + 1 => .tup [nest k]
theorem nest_imm : ∀ k, (nest k).imm = true
  | 0 => rfl
  | k + 1 => by show (T.imm (nest k) && true) = true; rw [nest_imm k]; rfl
theorem nest_ok : ∀ k, Ok (k + 1) (nest k)
  | 0 => by simp only [nest, Ok, Oks]
  | k + 1 => by
    simp only [nest, Ok, Oks]
    exact ⟨nest_ok k, trivial⟩
theorem nest_W : ∀ k, W (nest k) = List.replicate (k + 1) 40 ++ List.replicate (k + 1) 41
  | 0 => rfl
  | k + 1 => by
    simp only [nest, W, Ws, Wr, List.append_nil, nest_W k]
    rw [List.replicate_succ' (n := k + 1) (a := 41), List.replicate_succ (n := k + 1) (a := 40)]
    simp
theorem nest_loop (a : Option T) : ∀ (items : List T) (k : Nat) (x : Option T), ∃ x', forF (gN 2).sem (blk [sSet (gN 1) (eTup (xs [(eVar 1)]))]).sem items [a, some (nest k), x] = .nx [a, some (nest (k + items.length)), x']
  | [], k, x => ⟨x, rfl⟩
  | t :: items, k, x => by
    obtain ⟨x', e⟩ := nest_loop a items (k + 1) (some t)
    refine ⟨x', ?_⟩
    have v1 : (eVar 1).sem [a, some (nest k), some t] = .ok (.v (nest k)) [a, some (nest k), some t] false := v_imm rfl (nest_imm k)
    have tp : (eTup (xs [(eVar 1)])).sem [a, some (nest k), some t] = .ok (.v (nest (k + 1))) [a, some (nest k), some t] false := e_tup (ts := [nest k]) (evc v1 evn) (by show 1 ≤ 10000; decide)
    refine (f_nx (ρ1 := [a, some (nest k), some t]) rfl ((b_nx (s_set tp rfl)).trans b_nil)).trans ?_
    rw [List.length_cons, show k + (items.length + 1) = k + 1 + items.length by omega]
    exact e
theorem nested_ok (n : Nat) (h0 : 0 < n) (hn : n ≤ 1000) : φ_law_nested [.int n] = .ok (nest (n - 1)) [some (.int n)] := by
  have s1 : (sSet (gN 1) (eTup (xs []))).sem [some (.int n), none, none] = .nx [some (.int n), some (nest 0), none] := s_set (ρ1 := [some (.int n), none, none]) (t := .tup []) (τ := false) rfl rfl
  have rg : (iRange1 (eBin .Sub (eVar 0) (eInt 1))).sem [some (.int n), some (nest 0), none] = .ok (rangeL 0 ((n : Int) - 1)) [some (.int n), some (nest 0), none] false false := rg1 (j := (n : Int) - 1) rfl (small62_of (by omega))
  have hl : (rangeL 0 ((n : Int) - 1)).length = n - 1 := by unfold rangeL; rw [List.length_map, List.length_range]; omega
  obtain ⟨x', e⟩ := nest_loop (some (.int n)) (rangeL 0 ((n : Int) - 1)) 0 none
  rw [hl, Nat.zero_add] at e
  exact fn_ret (b := b_law_nested) rfl ((b_nx s1).trans ((b_nx ((s_for rg).trans e)).trans (b_ret (s_ret (v_imm rfl (nest_imm _)))))) rfl rfl
end K83
set_option Elab.async false
set_option linter.all false
set_option maxRecDepth 100000
set_option maxHeartbeats 400000
/-! k83: leaves and values. -/
namespace K83
open PySem L2 Pv
theorem dg_shape {d : T} (h : Dg d) : ∃ ts, d = .lst ts := by
  obtain ⟨a, b, c, e, cs, rfl, _⟩ := h
  exact ⟨_, rfl⟩
/-- a draw in a call's place: d stands in slot 0 -/
theorem e_draw {d : T} (hd : Dg d) {m : Int} (hm : m < 1073741824) {a : Ex} {r : Rho} (ha : a.sem (some d :: r) = .ok (.v (.int m)) (some d :: r) false) :
    ∃ k d', (eCall F_law_draw (xs [(eVar 0), a])).sem (some d :: r) = .ok (.v (.int k)) (some d' :: r) true ∧ Dg d' ∧ 0 ≤ k ∧ (m < 2 → k = 0) ∧ (2 ≤ m → k < m) := by
  obtain ⟨k, d', q1, q2, q3, q4, q5⟩ := draw_ok hd hm
  obtain ⟨ts, rfl⟩ := dg_shape hd
  refine ⟨k, d', e_call (ρ1 := some (.lst ts) :: r) (τ := false) (os := [.p 0 [], .v (.int m)]) (ts := [.lst ts, .int m]) ?_ rfl rfl rfl q1 rfl, q2, q3, q4, q5⟩
  exact ev2 (τ1 := false) (τ2 := false) (v_lst rfl) ha rfl rfl
theorem e_pick {d : T} (hd : Dg d) {row : List T} (him : T.imms row = true) (hne : 0 < row.length) (hl : row.length < 1073741824) {a : Ex} {r : Rho} (ha : a.sem (some d :: r) = .ok (.v (.lst row)) (some d :: r) false) :
    ∃ x d', x ∈ row ∧ (eCall F_law_pick (xs [(eVar 0), a])).sem (some d :: r) = .ok (.v x) (some d' :: r) true ∧ Dg d' := by
  obtain ⟨x, d', q0, q1, q2⟩ := pick_ok hd him hne hl
  obtain ⟨ts, rfl⟩ := dg_shape hd
  refine ⟨x, d', q0, e_call (ρ1 := some (.lst ts) :: r) (τ := false) (os := [.p 0 [], .v (.lst row)]) (ts := [.lst ts, .lst row]) ?_ rfl rfl rfl q1 rfl, q2⟩
  exact ev2 (τ1 := false) (τ2 := false) (v_lst rfl) ha rfl rfl
def LEAF : Nat := 2409
theorem pow_leaf : (2 : Nat) ^ 8000 + 1000 < 10 ^ LEAF := by decide +kernel
theorem leaf_big : (10 : Nat) ^ LEAF ≤ BIG := Nat.pow_le_pow_right (by decide) (by decide)
theorem leaf_int {i : Int} (h0 : 0 ≤ i) (h : i.natAbs < 10 ^ LEAF) : (∀ k, Ok k (.int i)) ∧ (W (.int i)).length ≤ LEAF := by
  refine ⟨fun k => by cases k <;> (simp only [Ok]; exact Nat.lt_of_lt_of_le h leaf_big), ?_⟩
  have := dg_len 2408 i.natAbs h
  show (wInt i).length ≤ 2409
  rcases wInt_cases i with ⟨_, e⟩ | ⟨z, _⟩
  · rw [e]; omega
  · omega
theorem leaf_neg {i : Int} (h : i.natAbs ≤ 1000000) : (∀ k, Ok k (.int i)) ∧ (W (.int i)).length ≤ LEAF := by
  have hb : (1000000 : Nat) < BIG := Nat.lt_of_lt_of_le (show (1000000 : Nat) < 10 ^ 7 by decide) (Nat.pow_le_pow_right (by decide) (by decide))
  refine ⟨fun k => by cases k <;> (simp only [Ok]; omega), ?_⟩
  have := dg_len 6 i.natAbs (Nat.lt_of_le_of_lt h (by decide))
  show (wInt i).length ≤ 2409
  rcases wInt_cases i with ⟨_, e⟩ | ⟨z, e⟩
  · rw [e]; omega
  · rw [e, List.length_cons]; omega
theorem leaf_str {t : T} (h : plainS t = true) : (∀ k, Ok k t) ∧ (W t).length ≤ LEAF := by
  cases t <;> first | (simp [plainS] at h; done) | skip
  rename_i s
  simp only [plainS, Bool.and_eq_true, decide_eq_true_eq] at h
  have hl : s.cps.toList.length = s.length := len_list s
  refine ⟨fun k => ?_, ?_⟩
  · have : okStr s = true := by
      unfold okStr
      rw [h.1, decide_eq_true (by omega)]; rfl
    cases k <;> (simp only [Ok]; exact this)
  · show (34 :: (s.cps.toList ++ [34])).length ≤ 2409
    simp only [List.length_cons, List.length_append, List.length_nil]
    omega
def six : List T := [.str "", .str "a b", .str "x;y(", .str "-", .str "12", .str ")~!"]
theorem six_plain : six.all plainS = true := by decide +kernel
theorem eq_int (ρ : Rho) (i : Nat) (j k : Int) (h : ρ[i]? = some (some (.int k))) : (bCmp .Eq (eVar i) (eInt j)).sem ρ = .ok (k == j) ρ false := by
  have v : (eVar i).sem ρ = .ok (.v (.int k)) ρ false := v_imm h rfl
  exact b_cmp (τ1 := false) (τ2 := false) (o2 := .v (.int j)) (y := .int j) v rfl rfl rfl rfl rfl rfl
/-- a leaf -/
theorem leaf_ok {d : T} (hd : Dg d) : ∃ v d', φ_law_leaf [d] = .ok v [some d'] ∧ Dg d' ∧ (∀ k, Ok k v) ∧ (W v).length ≤ LEAF := by
  obtain ⟨way, d1, q1, q2, q3, q4, q5⟩ := e_draw hd (m := 6) (by decide) (a := eInt 6) (r := [none]) rfl
  have q5 := q5 (by decide)
  obtain ⟨ts0, e0⟩ := dg_shape hd
  have s1 : (sSet (gN 1) (eCall F_law_draw (xs [(eVar 0), (eInt 6)]))).sem [some d, none] = .nx [some d1, some (.int way)] := s_set q1 rfl
  have c := fun j => eq_int [some d1, some (.int way)] 1 j way rfl
  have cal : calmArgs b_law_leaf.asg 0 [d] = true := by rw [e0]; rfl
  have bk : ∀ (d2 : T) (y : Option T), back [d] 0 [some d2, y] = [some d2] := fun d2 y => by rw [e0]; rfl
  by_cases w0 : way = 0
  · subst w0
    exact ⟨.non, d1, fn_ret rfl ((b_nx s1).trans (b_ret ((i_t (c 0)).trans (b_ret (s_ret rfl))))) (bk _ _) cal, q2, fun k => by cases k <;> exact True.intro, by show 1 ≤ 2409; decide⟩
  have c0 := c 0
  rw [show (way == 0) = false by simpa using w0] at c0
  by_cases w1 : way = 1
  · subst w1
    obtain ⟨row, p1, p2, p3⟩ := pool_ok
    have i1 := imms_plain p3
    have pl : (eCall0 F_law_pool).sem [some d1, some (.int 1)] = .ok (.v (.lst row)) [some d1, some (.int 1)] false := by
      show effSem 0 [] φ_law_pool [some d1, some (.int 1)] = _
      unfold effSem
      rw [evn]
      simp only [getOs]
      rw [if_pos ⟨rfl, rfl⟩, p1]
      rfl
    have ad : (eBin .Add (eCall0 F_law_pool) (eLst (xs [(eStr ""), (eStr "a b"), (eStr "x;y("), (eStr "-"), (eStr "12"), (eStr ")~!")]))).sem [some d1, some (.int 1)] = .ok (.v (.lst (row ++ six))) [some d1, some (.int 1)] false :=
      e_bin (τ2 := false) (o2 := .v (.lst six)) (y := .lst six) pl rfl rfl rfl rfl rfl (if_pos ⟨i1, rfl, by rw [p2, sizeLine_eq]; decide⟩)
    have al : (row ++ six).all plainS = true := by rw [List.all_append, p3, six_plain]; rfl
    obtain ⟨x, d2, m1, m2, m3⟩ := e_pick q2 (imms_plain al) (by rw [List.length_append, p2]; omega) (by rw [List.length_append, p2]; decide) ad
    have px := leaf_str (List.all_eq_true.mp al x m1)
    exact ⟨x, d2, fn_ret rfl ((b_nx s1).trans ((b_nx ((i_f c0).trans rfl)).trans (b_ret ((i_t (c 1)).trans (b_ret (s_ret m2)))))) (bk _ _) cal, m3, px.1, px.2⟩
  have c1 := c 1
  rw [show (way == 1) = false by simpa using w1] at c1
  by_cases w2 : way = 2
  · subst w2
    obtain ⟨k, d2, m1, m2, m3, m4, m5⟩ := e_draw q2 (m := 1000000) (by decide) (a := eInt 1000000) (r := [some (.int 2)]) rfl
    have m5 := m5 (by decide)
    have sb : (eBin .Sub (eInt 0) (eCall F_law_draw (xs [(eVar 0), (eInt 1000000)]))).sem [some d1, some (.int 2)] = .ok (.v (.int (0 - k))) [some d2, some (.int 2)] true :=
      e_bin (τ1 := false) (o1 := .v (.int 0)) (x := .int 0) (ρ1 := [some d1, some (.int 2)]) rfl m1 rfl rfl rfl rfl rfl
    have px := leaf_neg (i := 0 - k) (by omega)
    exact ⟨.int (0 - k), d2, fn_ret rfl ((b_nx s1).trans ((b_nx ((i_f c0).trans rfl)).trans ((b_nx ((i_f c1).trans rfl)).trans (b_ret ((i_t (c 2)).trans (b_ret (s_ret sb))))))) (bk _ _) cal, m2, px.1, px.2⟩
  have c2 := c 2
  rw [show (way == 2) = false by simpa using w2] at c2
  by_cases w3 : way = 3
  · subst w3
    obtain ⟨k, d2, m1, m2, m3, m4, m5⟩ := e_draw q2 (m := 8000) (by decide) (a := eInt 8000) (r := [some (.int 3)]) rfl
    have m5 := m5 (by decide)
    obtain ⟨l, d3, n1, n2, n3, n4, n5⟩ := e_draw m2 (m := 1000) (by decide) (a := eInt 1000) (r := [some (.int 3)]) rfl
    have n5 := n5 (by decide)
    have sh : (eBin .LShift (eInt 1) (eCall F_law_draw (xs [(eVar 0), (eInt 8000)]))).sem [some d1, some (.int 3)] = .ok (.v (.int (1 * 2 ^ k.toNat))) [some d2, some (.int 3)] true :=
      e_bin (τ1 := false) (o1 := .v (.int 1)) (x := .int 1) (ρ1 := [some d1, some (.int 3)]) rfl m1 rfl rfl rfl rfl (if_pos ⟨m3, by omega, by decide⟩)
    have ad := e_bin (op := .Add) (z := .int (1 * 2 ^ k.toNat + l)) sh n1 rfl rfl rfl rfl rfl
    have hk : (2 : Nat) ^ k.toNat ≤ 2 ^ 8000 := Nat.pow_le_pow_right (by decide) (by omega)
    have e2 : (1 * 2 ^ k.toNat + l : Int) = ((2 ^ k.toNat + l.toNat : Nat) : Int) := by
      rw [Int.natCast_add, Int.natCast_pow, Int.one_mul, Int.toNat_of_nonneg n3]; rfl
    have px := leaf_int (i := 1 * 2 ^ k.toNat + l) (by rw [e2]; exact Int.natCast_nonneg _) (by
      rw [e2, Int.natAbs_natCast]
      refine Nat.lt_of_le_of_lt ?_ pow_leaf
      omega)
    exact ⟨_, d3, fn_ret rfl ((b_nx s1).trans ((b_nx ((i_f c0).trans rfl)).trans ((b_nx ((i_f c1).trans rfl)).trans ((b_nx ((i_f c2).trans rfl)).trans (b_ret ((i_t (c 3)).trans (b_ret (s_ret ad)))))))) (bk _ _) cal, n2, px.1, px.2⟩
  have c3 := c 3
  rw [show (way == 3) = false by simpa using w3] at c3
  obtain ⟨k, d2, m1, m2, m3, m4, m5⟩ := e_draw q2 (m := 50) (by decide) (a := eInt 50) (r := [some (.int way)]) rfl
  have m5 := m5 (by decide)
  have px := leaf_neg (i := k) (by omega)
  exact ⟨_, d2, fn_ret rfl ((b_nx s1).trans ((b_nx ((i_f c0).trans rfl)).trans ((b_nx ((i_f c1).trans rfl)).trans ((b_nx ((i_f c2).trans rfl)).trans ((b_nx ((i_f c3).trans rfl)).trans (b_ret (s_ret m1))))))) (bk _ _) cal, m2, px.1, px.2⟩
end K83
set_option Elab.async false
set_option linter.all false
set_option maxRecDepth 100000
set_option maxHeartbeats 400000
/-! k83: values. -/
namespace K83
open PySem L2 Pv
theorem e_lc {l : Lc} {ρ ρ1 ρ2 : Rho} {items acc : List T} {τ τ2 w : Bool} (hi : l.it.sem ρ = .ok items ρ1 τ w) (hc : calmAt ρ1 l.vs = true) (h : lcF l.tg.sem l.tt l.el.sem l.vs items [] (wipeR ρ1 l.vs) false = .ok acc ρ2 τ2) (hw : w = false ∨ τ2 = false) :
    (eLc l).sem ρ = .ok (.v (.lst acc)) (unwipe ρ1 ρ2 l.vs) (τ || τ2) := by
  show lcSem l.it.sem l.tg.sem l.tt l.el.sem l.vs ρ = _
  unfold lcSem
  rw [hi]; simp only; rw [if_pos hc, h]; simp only
  rw [if_neg (by rintro ⟨rfl, rfl⟩; rcases hw with z | z <;> cases z)]
theorem e_tuple {a : Ex} {ρ ρ1 : Rho} {o : O} {ts : List T} {τ : Bool} (h : a.sem ρ = .ok o ρ1 τ) (d : o.there ρ1 = true) (g : getO ρ1 o = some (.lst ts)) (im : T.imms ts = true) : (eTuple a).sem ρ = .ok (.v (.tup ts)) ρ1 τ := by
  show opSem [a.sem] (f1 tupleT) ρ = _
  unfold opSem
  rw [ev1 h d]
  simp only [f1, g, tupleT, im, if_true]
def bnd (m : Nat) : Nat := if m < 2 then 2409 else 4821 * m
def Val (k : Nat) (m : Nat) (v : T) : Prop := Ok k v ∧ (W v).length ≤ bnd m
theorem Ws_sum {ts : List T} {b : Nat} (h : ∀ t ∈ ts, (W t).length ≤ b) : (Ws ts).length ≤ ts.length * b + ts.length := by
  have r : ∀ {ts : List T}, (∀ t ∈ ts, (W t).length ≤ b) → (Wr ts).length ≤ ts.length * b + ts.length := fun {ts} h => by
    induction ts with
    | nil => simp [Wr]
    | cons a ts ih =>
      have h1 := h a List.mem_cons_self
      have := ih fun t ht => h t (List.mem_cons_of_mem _ ht)
      simp only [Wr, List.length_cons, List.length_append, Nat.add_mul, Nat.one_mul]
      omega
  cases ts with
  | nil => simp [Ws]
  | cons a ts =>
    have h1 := h a List.mem_cons_self
    have := r (ts := ts) fun t ht => h t (List.mem_cons_of_mem _ ht)
    simp only [Ws, List.length_cons, List.length_append, Nat.add_mul, Nat.one_mul]
    omega
theorem bnd_tup {m s : Nat} (hm : 2 ≤ m) (hs : s ≤ 4) : s * bnd (m / (s + 1)) + s + 2 ≤ bnd m := by
  have e : bnd m = 4821 * m := if_neg (by omega)
  rw [e]
  have dm := Nat.div_mul_le_self m (s + 1)
  generalize m / (s + 1) = q at *
  unfold bnd
  have : s = 0 ∨ s = 1 ∨ s = 2 ∨ s = 3 ∨ s = 4 := by omega
  split
  · rcases this with rfl | rfl | rfl | rfl | rfl <;> omega
  · rcases this with rfl | rfl | rfl | rfl | rfl <;> omega
abbrev r5 (d : T) (m dep : Nat) (x y : Option T) : Rho := [some d, some (.int m), some (.int dep), x, y]
def valLc (n : Nat) : Lc := ⟨[4], (gN 4), (iRange1 (eVar 3)), none, (eCall (F_law_value_at n) (xs [(eVar 0), (eBin .FloorDiv (eVar 1) (eBin .Add (eVar 3) (eInt 1))), (eBin .Sub (eVar 2) (eInt 1))]))⟩
def ValOk (n dep : Nat) : Prop := ∀ (m : Nat) (d : T), Dg d → m < 1000000 → ∃ v d', φ_law_value n [d, .int m, .int dep] = .ok v [some d', some (.int m), some (.int dep)] ∧ Dg d' ∧ Val dep m v
theorem val_loop {n m dep s : Nat} (ih : ValOk n dep) (hm : m < 1000000) (hs : s ≤ 4) : ∀ (items acc : List T) (d : T) (τ : Bool), Dg d → acc.length + items.length ≤ 1000 →
    ∃ vs d' τ', lcF (gN 4).sem (fun ρ => .ok true ρ false) (valLc n).el.sem [4] items acc (r5 d m (dep + 1) (some (.int s)) none) τ = .ok (acc ++ vs) (r5 d' m (dep + 1) (some (.int s)) none) τ' ∧ Dg d' ∧ vs.length = items.length ∧ ∀ v ∈ vs, Val dep (m / (s + 1)) v
  | [], acc, d, τ, hd, _ => ⟨[], d, τ, by rw [List.append_nil]; rfl, hd, rfl, fun v h => by cases h⟩
  | t :: items, acc, d, τ, hd, hl => by
    simp only [List.length_cons] at hl
    obtain ⟨v, d', q1, q2, q3⟩ := ih (m / (s + 1)) d hd (Nat.lt_of_le_of_lt (Nat.div_le_self _ _) hm)
    obtain ⟨ts, rfl⟩ := dg_shape hd
    let ρ : Rho := r5 (.lst ts) m (dep + 1) (some (.int s)) (some t)
    have dv : (eBin .FloorDiv (eVar 1) (eBin .Add (eVar 3) (eInt 1))).sem ρ = .ok (.v (.int ((m / (s + 1) : Nat) : Int))) ρ false := by
      refine e_bin (τ1 := false) (τ2 := false) (o1 := .v (.int m)) (o2 := .v (.int ((s : Int) + 1))) (x := .int m) (y := .int ((s : Int) + 1)) rfl rfl rfl rfl rfl rfl ?_
      refine (div_ok ⟨by omega, by omega⟩).trans ?_
      congr 2
    have su : (eBin .Sub (eVar 2) (eInt 1)).sem ρ = .ok (.v (.int (dep : Int))) ρ false := by
      refine e_bin (τ1 := false) (τ2 := false) (o1 := .v (.int ((dep + 1 : Nat) : Int))) (o2 := .v (.int 1)) (x := .int ((dep + 1 : Nat) : Int)) (y := .int 1) rfl rfl rfl rfl rfl rfl ?_
      show some (T.int (((dep + 1 : Nat) : Int) - 1)) = _
      congr 2
      omega
    have cl : (valLc n).el.sem ρ = .ok (.v v) (r5 d' m (dep + 1) (some (.int s)) (some t)) true := by
      refine e_call (F := F_law_value_at n) (ρ1 := ρ) (τ := false) (os := [.p 0 [], .v (.int ((m / (s + 1) : Nat) : Int)), .v (.int (dep : Int))]) (ts := [.lst ts, .int ((m / (s + 1) : Nat) : Int), .int dep]) ?_ rfl rfl rfl q1 rfl
      have e2 := evc dv (evc su evn)
      have e0 : (eVar 0).sem ρ = .ok (.p 0 []) ρ false := v_lst rfl
      have th : O.there ρ (.p 0 []) = true := rfl
      show evL ((eVar 0).sem :: [_, _]) ρ = _
      unfold evL
      rw [e0]
      simp only
      rw [e2]
      simp only
      rw [if_neg (by simp [th, O.deep])]
      rfl
    obtain ⟨vs, d2, τ', p1, p2, p3, p4⟩ := val_loop ih hm hs items (acc ++ [v]) d' (τ || (false || true)) q2 (by rw [List.length_append]; simp; omega)
    refine ⟨v :: vs, d2, τ', ?_, p2, by simp [p3], fun x hx => ?_⟩
    · have st : (gN 4).sem t (r5 (.lst ts) m (dep + 1) (some (.int s)) none) = some ρ := rfl
      simp only [lcF, st, cl, if_true]
      rw [if_pos (by rw [sizeLine_eq]; omega)]
      rw [show wipeR (r5 d' m (dep + 1) (some (.int s)) (some t)) [4] = r5 d' m (dep + 1) (some (.int s)) none from rfl, p1]
      simp
    · rcases List.mem_cons.mp hx with rfl | hx
      · exact q3
      · exact p4 x hx
theorem oks_of : ∀ {ts : List T} {k : Nat}, (∀ t ∈ ts, Ok k t) → Oks k ts
  | [], _, _ => by simp only [Oks]
  | t :: ts, k, h => by
    simp only [Oks]
    exact ⟨h t List.mem_cons_self, oks_of fun x hx => h x (List.mem_cons_of_mem _ hx)⟩
theorem bnd_leaf (m : Nat) : LEAF ≤ bnd m := by
  unfold bnd LEAF
  split <;> omega
theorem value_ok : ∀ (n dep : Nat), dep < n → ValOk n dep
  | 0, dep, h => by omega
  | n + 1, dep, hn => fun m d hd hm => by
    obtain ⟨ts0, e0⟩ := dg_shape hd
    let ρ0 : Rho := r5 d m dep none none
    have c1 : (bCmp .Eq (eVar 2) (eInt 0)).sem ρ0 = .ok ((dep : Int) == 0) ρ0 false := eq_int ρ0 2 0 dep rfl
    have c2 : (bCmp .Lt (eVar 1) (eInt 2)).sem ρ0 = .ok (decide ((m : Int) < 2)) ρ0 false := rfl
    have cal : calmArgs (b_law_value (F_law_value_at n)).asg 0 [d, .int m, .int dep] = true := by rw [e0]; rfl
    have bk : ∀ (d2 : T) (x y : Option T), back [d, .int m, .int dep] 0 [some d2, some (.int m), some (.int dep), x, y] = [some d2, some (.int m), some (.int dep)] := fun d2 x y => by rw [e0]; rfl
    -- a leaf
    have lf : ∀ {d1 : T}, Dg d1 → (bOr [(bCmp .Eq (eVar 2) (eInt 0)), (bCmp .Lt (eVar 1) (eInt 2)), (bCmp .Eq (eCall F_law_draw (xs [(eVar 0), (eInt 4)])) (eInt 0))]).sem ρ0 = .ok true (r5 d1 m dep none none) true ∨ (bOr [(bCmp .Eq (eVar 2) (eInt 0)), (bCmp .Lt (eVar 1) (eInt 2)), (bCmp .Eq (eCall F_law_draw (xs [(eVar 0), (eInt 4)])) (eInt 0))]).sem ρ0 = .ok true (r5 d1 m dep none none) false →
        ∃ v d', φ_law_value (n + 1) [d, .int m, .int dep] = .ok v [some d', some (.int m), some (.int dep)] ∧ Dg d' ∧ Val dep m v := fun {d1} h1 hc => by
      obtain ⟨v, d2, q1, q2, q3, q4⟩ := leaf_ok h1
      obtain ⟨ts1, e1⟩ := dg_shape h1
      have cl : (eCall F_law_leaf (xs [(eVar 0)])).sem (r5 d1 m dep none none) = .ok (.v v) (r5 d2 m dep none none) true := by
        subst e1
        exact e_call (ρ1 := r5 (.lst ts1) m dep none none) (τ := false) (os := [.p 0 []]) (ts := [.lst ts1]) (ev1 (v_lst rfl) rfl) rfl rfl rfl q1 rfl
      refine ⟨v, d2, fn_ret (b := b_law_value (F_law_value_at n)) (ρ := r5 d2 m dep none none) rfl (b_ret ?_) (bk _ _ _) cal, q2, q3 _, Nat.le_trans q4 (bnd_leaf m)⟩
      rcases hc with hc | hc <;> exact (i_t hc).trans (b_ret (s_ret cl))
    by_cases h0 : dep = 0
    · refine lf hd (.inr ?_)
      rw [show ((dep : Int) == 0) = true by simp [h0]] at c1
      exact or_t c1
    rw [show ((dep : Int) == 0) = false by simpa using fun z => h0 (by omega)] at c1
    by_cases h2 : m < 2
    · refine lf hd (.inr ?_)
      rw [decide_eq_true (by omega)] at c2
      exact or_f (τ := false) (τ2 := false) c1 (or_t c2)
    rw [decide_eq_false (by omega)] at c2
    obtain ⟨k, d1, m1, m2, m3, m4, m5⟩ := e_draw hd (m := 4) (by decide) (a := eInt 4) (r := [some (.int m), some (.int dep), none, none]) rfl
    have c3 : (bCmp .Eq (eCall F_law_draw (xs [(eVar 0), (eInt 4)])) (eInt 0)).sem ρ0 = .ok (k == 0) (r5 d1 m dep none none) true :=
      b_cmp (τ2 := false) (o2 := .v (.int 0)) (y := .int 0) m1 rfl rfl rfl rfl rfl rfl
    by_cases hk : k = 0
    · refine lf m2 (.inl ?_)
      subst hk
      exact or_f (τ := false) (τ2 := true) c1 (or_f (τ := false) (τ2 := true) c2 (or_1.trans c3))
    rw [show (k == 0) = false by simpa using hk] at c3
    have cc := or_f (τ := false) (τ2 := true) c1 (or_f (τ := false) (τ2 := true) c2 (or_1.trans c3))
    obtain ⟨sz, d2, n1, n2, n3, n4, n5⟩ := e_draw m2 (m := 5) (by decide) (a := eInt 5) (r := [some (.int m), some (.int dep), none, none]) rfl
    have n5 := n5 (by decide)
    obtain ⟨s, rfl⟩ : ∃ s : Nat, sz = (s : Int) := ⟨sz.toNat, by omega⟩
    obtain ⟨dep, rfl⟩ : ∃ p, dep = p + 1 := ⟨dep - 1, by omega⟩
    have s3 : (sSet (gN 3) (eCall F_law_draw (xs [(eVar 0), (eInt 5)]))).sem (r5 d1 m (dep + 1) none none) = .nx (r5 d2 m (dep + 1) (some (.int s)) none) := s_set n1 rfl
    have rg : (iRange1 (eVar 3)).sem (r5 d2 m (dep + 1) (some (.int s)) none) = .ok (rangeL 0 s) (r5 d2 m (dep + 1) (some (.int s)) none) false false := rg1 (j := (s : Int)) rfl (small62_of (by omega))
    have hl : (rangeL 0 (s : Int)).length = s := by unfold rangeL; rw [List.length_map, List.length_range]; omega
    obtain ⟨vs, d3, τ', p1, p2, p3, p4⟩ := val_loop (n := n) (m := m) (dep := dep) (s := s) (value_ok n dep (by omega)) hm (by omega) (rangeL 0 s) [] d2 false n2 (by rw [hl]; simp; omega)
    rw [hl] at p3
    have ov : Oks dep vs := oks_of fun v hv => (p4 v hv).1
    have lc : (eLc (valLc n)).sem (r5 d2 m (dep + 1) (some (.int s)) none) = .ok (.v (.lst vs)) (r5 d3 m (dep + 1) (some (.int s)) none) (false || τ') := e_lc (l := valLc n) (ρ1 := r5 d2 m (dep + 1) (some (.int s)) none) rg rfl p1 (.inl rfl)
    have tu : (eTuple (eLc (valLc n))).sem (r5 d2 m (dep + 1) (some (.int s)) none) = .ok (.v (.tup vs)) (r5 d3 m (dep + 1) (some (.int s)) none) (false || τ') := e_tuple lc rfl rfl (oks_imm _ _ ov)
    refine ⟨.tup vs, d3, fn_ret (b := b_law_value (F_law_value_at n)) rfl ((b_nx ((i_f cc).trans rfl)).trans ((b_nx s3).trans (b_ret (s_ret tu)))) (bk _ _ _) cal, p2, ?_, ?_⟩
    · simp only [Ok]; exact ov
    · have w := Ws_sum (ts := vs) (b := bnd (m / (s + 1))) fun v hv => (p4 v hv).2
      have b := bnd_tup (m := m) (s := s) (by omega) (by omega)
      rw [p3] at w
      simp only [W, List.length_cons, List.length_append, List.length_nil]
      omega
end K83
set_option Elab.async false
set_option linter.all false
set_option maxRecDepth 100000
set_option maxHeartbeats 400000
/-! k83: wrong texts, rare draws. -/
namespace K83
open PySem L2 Pv
theorem b_skip {q : Bx} {x : Bl} {l : List Sx} {ρ ρ1 : Rho} {τ : Bool} (h : q.sem ρ = .ok false ρ1 τ) : (blk (sIf q x (blk []) :: l)).sem ρ = (blk l).sem ρ1 := b_nx ((i_f h).trans rfl)
theorem b_hit {q : Bx} {x : Bl} {l : List Sx} {ρ ρ1 ρ2 : Rho} {t : T} {τ : Bool} (h : q.sem ρ = .ok true ρ1 τ) (h2 : x.sem ρ1 = .ret t ρ2) : (blk (sIf q x (blk []) :: l)).sem ρ = .ret t ρ2 := b_ret ((i_t h).trans h2)
theorem str_add {a b : Ex} {ρ ρ1 ρ2 : Rho} {x y : Str} {τ1 τ2 : Bool} (h1 : a.sem ρ = .ok (.v (.str x)) ρ1 τ1) (h2 : b.sem ρ1 = .ok (.v (.str y)) ρ2 τ2) (hl : x.length + y.length ≤ 1000000) : (eBin .Add a b).sem ρ = .ok (.v (.str (x ++ y))) ρ2 (τ1 || τ2) :=
  e_bin h1 h2 rfl rfl rfl rfl (if_pos (by rw [sizeLine_eq]; omega))
def lowL (l : List Nat) : Prop := ∀ c ∈ l, c < 0x110000
theorem lowL_app {a b : List Nat} (h : lowL a) (h2 : lowL b) : lowL (a ++ b) := fun c hc => (List.mem_append.mp hc).elim (h c) (h2 c)
theorem lowS_of {x : Str} (h : lowL (tl x)) (hl : (tl x).length ≤ 400000) : lowS x := ⟨h, by rw [← len_tl]; exact hl⟩
abbrev r3 (d : T) (s : Str) (w : Option T) : Rho := [some d, some (.str s), w]
def rows5 : List Str := [" 01)", " -0)", " 1-)", " --)", " a)", " +1)", " 1_0)", " ())("]
def rows8 : List Str := ["\"\")", "\n)", " \"\t\")", " 1 )", "( )"]
theorem rows5_ok : ∀ y ∈ rows5, tl y ∈ badS ∧ (tl y).length ≤ 10 ∧ lowL (tl y) := by
  have : rows5.all (fun y => decide (tl y ∈ badS) && (decide ((tl y).length ≤ 10) && (tl y).all (fun c => decide (c < 0x110000)))) = true := by decide +kernel
  intro y hy
  have := List.all_eq_true.mp this y hy
  simp only [Bool.and_eq_true, decide_eq_true_eq, List.all_eq_true] at this
  exact this
theorem rows8_ok : ∀ y ∈ rows8, tl y ∈ badS ∧ (tl y).length ≤ 10 ∧ lowL (tl y) := by
  have : rows8.all (fun y => decide (tl y ∈ badS) && (decide ((tl y).length ≤ 10) && (tl y).all (fun c => decide (c < 0x110000)))) = true := by decide +kernel
  intro y hy
  have := List.all_eq_true.mp this y hy
  simp only [Bool.and_eq_true, decide_eq_true_eq, List.all_eq_true] at this
  exact this
theorem wrong_ok {d : T} (hd : Dg d) {t : T} {s : Str} (ht : Ok 5 t) (e : tl s = W t) (hl : (W t).length ≤ 192840) :
    ∃ x d', φ_law_wrong [d, .str s] = .ok (.str x) [some d', some (.str s)] ∧ Dg d' ∧ lowS x ∧ acc (tl x) = false := by
  have lw : lowL (tl s) := by rw [e]; exact W_low t 5 ht
  have ls : s.length ≤ 192840 := by rw [← len_tl, e]; exact hl
  obtain ⟨ts0, e0⟩ := dg_shape hd
  obtain ⟨way, d1, q1, q2, q3, q4, q5⟩ := e_draw hd (m := 9) (by decide) (a := eInt 9) (r := [some (.str s), none]) rfl
  have q5 := q5 (by decide)
  have s1 : (sSet (gN 2) (eCall F_law_draw (xs [(eVar 0), (eInt 9)]))).sem (r3 d s none) = .nx (r3 d1 s (some (.int way))) := s_set q1 rfl
  have c := fun j => eq_int (r3 d1 s (some (.int way))) 2 j way rfl
  have cal : calmArgs b_law_wrong.asg 0 [d, .str s] = true := by rw [e0]; rfl
  have bk : ∀ (d2 : T) (y : Option T), back [d, .str s] 0 [some d2, some (.str s), y] = [some d2, some (.str s)] := fun d2 y => by rw [e0]; rfl
  have v1 : (eVar 1).sem (r3 d1 s (some (.int way))) = .ok (.v (.str s)) (r3 d1 s (some (.int way))) false := rfl
  have fin : ∀ {x : Str} {d2 : T}, b_law_wrong.sem (r3 d s none) = .ret (.str x) (r3 d2 s (some (.int way))) → Dg d2 → lowL (tl x) → (tl x).length ≤ 400000 → acc (tl x) = false →
      ∃ x d', φ_law_wrong [d, .str s] = .ok (.str x) [some d', some (.str s)] ∧ Dg d' ∧ lowS x ∧ acc (tl x) = false := fun {x d2} h1 h2 h3 h4 h5 => ⟨x, d2, fn_ret rfl h1 (bk _ _) cal, h2, lowS_of h3 h4, h5⟩
  have w20 : tl " " = [32] := by decide +kernel
  have w40 : tl "(" = [40] := by decide +kernel
  have w41 : tl ")" = [41] := by decide +kernel
  have l20 : (" " : Str).length = 1 := by decide +kernel
  have l40 : ("(" : Str).length = 1 := by decide +kernel
  have l41 : (")" : Str).length = 1 := by decide +kernel
  have ll : (tl s).length ≤ 192840 := by rw [len_tl]; exact ls
  have one : ∀ {n : Nat}, n < 100 → lowL [n] := fun {n} h c hc => by have : c = n := by simpa using hc
                                                                     omega
  by_cases w0 : way = 0
  · subst w0
    have ad : (eBin .Add (eVar 1) (eStr " ")).sem (r3 d1 s (some (.int 0))) = .ok (.v (.str (s ++ " "))) (r3 d1 s (some (.int 0))) false := str_add (τ1 := false) (τ2 := false) v1 rfl (by rw [l20]; omega)
    refine fin ((b_nx s1).trans (b_hit (c 0) (b_ret (s_ret ad)))) q2 ?_ ?_ ?_ <;> rw [tl_add, w20]
    · exact lowL_app lw (one (by decide))
    · rw [List.length_append]; simp only [List.length_cons, List.length_nil]; omega
    · rw [e]; exact no_end ht (by decide) 32 (.inl rfl) []
  have c0 := c 0
  rw [show (way == 0) = false by simpa using w0] at c0
  by_cases w1 : way = 1
  · subst w1
    have ad : (eBin .Add (eStr " ") (eVar 1)).sem (r3 d1 s (some (.int 1))) = .ok (.v (.str (" " ++ s))) (r3 d1 s (some (.int 1))) false := str_add (ρ1 := (r3 d1 s (some (.int 1)))) (τ1 := false) (τ2 := false) rfl v1 (by rw [l20]; omega)
    refine fin ((b_nx s1).trans ((b_skip c0).trans (b_hit (c 1) (b_ret (s_ret ad))))) q2 ?_ ?_ ?_ <;> rw [tl_add, w20]
    · exact lowL_app (one (by decide)) lw
    · rw [List.length_append]; simp only [List.length_cons, List.length_nil]; omega
    · exact no_front _
  have c1 := c 1
  rw [show (way == 1) = false by simpa using w1] at c1
  by_cases w2 : way = 2
  · subst w2
    have ad : (eBin .Add (eVar 1) (eStr ")")).sem (r3 d1 s (some (.int 2))) = .ok (.v (.str (s ++ ")"))) (r3 d1 s (some (.int 2))) false := str_add (τ1 := false) (τ2 := false) v1 rfl (by rw [l41]; omega)
    refine fin ((b_nx s1).trans ((b_skip c0).trans ((b_skip c1).trans (b_hit (c 2) (b_ret (s_ret ad)))))) q2 ?_ ?_ ?_ <;> rw [tl_add, w41]
    · exact lowL_app lw (one (by decide))
    · rw [List.length_append]; simp only [List.length_cons, List.length_nil]; omega
    · rw [e]; exact no_end ht (by decide) 41 (.inr rfl) []
  have c2 := c 2
  rw [show (way == 2) = false by simpa using w2] at c2
  by_cases w3 : way = 3
  · subst w3
    have a1 : (eBin .Add (eStr "(") (eVar 1)).sem (r3 d1 s (some (.int 3))) = .ok (.v (.str ("(" ++ s))) (r3 d1 s (some (.int 3))) false := str_add (ρ1 := (r3 d1 s (some (.int 3)))) (τ1 := false) (τ2 := false) rfl v1 (by rw [l40]; omega)
    refine fin ((b_nx s1).trans ((b_skip c0).trans ((b_skip c1).trans ((b_skip c2).trans (b_hit (c 3) (b_ret (s_ret a1))))))) q2 ?_ ?_ ?_ <;> rw [tl_add, w40]
    · exact lowL_app (one (by decide)) lw
    · rw [List.length_append]; simp only [List.length_cons, List.length_nil]; omega
    · have := no_suf ht (by decide) (suf := []) (by decide)
      rw [List.append_nil, ← e] at this
      exact this
  have c3 := c 3
  rw [show (way == 3) = false by simpa using w3] at c3
  by_cases w4 : way = 4
  · subst w4
    have a1 : (eBin .Add (eStr "(") (eVar 1)).sem (r3 d1 s (some (.int 4))) = .ok (.v (.str ("(" ++ s))) (r3 d1 s (some (.int 4))) false := str_add (ρ1 := (r3 d1 s (some (.int 4)))) (τ1 := false) (τ2 := false) rfl v1 (by rw [l40]; omega)
    have w9 : tl "  1)" = [32, 32, 49, 41] := by decide +kernel
    have l9 : ("  1)" : Str).length = 4 := by decide +kernel
    have ad : (eBin .Add (eBin .Add (eStr "(") (eVar 1)) (eStr "  1)")).sem (r3 d1 s (some (.int 4))) = .ok (.v (.str ("(" ++ s ++ "  1)"))) (r3 d1 s (some (.int 4))) false := str_add (τ1 := false) (τ2 := false) a1 rfl (by rw [addS_len, l40, l9]; omega)
    refine fin ((b_nx s1).trans ((b_skip c0).trans ((b_skip c1).trans ((b_skip c2).trans ((b_skip c3).trans (b_hit (c 4) (b_ret (s_ret ad)))))))) q2 ?_ ?_ ?_ <;> rw [tl_add, tl_add, w40, w9]
    · exact lowL_app (lowL_app (one (by decide)) lw) (by intro c hc; simp at hc; omega)
    · rw [List.length_append, List.length_append]; simp only [List.length_cons, List.length_nil]; omega
    · have := no_suf ht (by decide) (suf := [32, 32, 49, 41]) (by decide)
      rw [← e] at this
      rw [List.append_assoc]
      exact this
  have c4 := c 4
  rw [show (way == 4) = false by simpa using w4] at c4
  by_cases w5 : way = 5
  · subst w5
    have a1 : (eBin .Add (eStr "(") (eVar 1)).sem (r3 d1 s (some (.int 5))) = .ok (.v (.str ("(" ++ s))) (r3 d1 s (some (.int 5))) false := str_add (ρ1 := (r3 d1 s (some (.int 5)))) (τ1 := false) (τ2 := false) rfl v1 (by rw [l40]; omega)
    obtain ⟨x, d2, m1, m2, m3⟩ := e_pick q2 (row := rows5.map T.str) (by decide) (by decide) (by decide) (a := eLst (xs [(eStr " 01)"), (eStr " -0)"), (eStr " 1-)"), (eStr " --)"), (eStr " a)"), (eStr " +1)"), (eStr " 1_0)"), (eStr " ())(")])) (r := [some (.str s), some (.int 5)]) rfl
    obtain ⟨y, hy, rfl⟩ := List.mem_map.mp m1
    obtain ⟨y1, y2, y3⟩ := rows5_ok y hy
    have ad := str_add a1 m2 (by rw [addS_len, l40]; have := len_tl y; omega)
    refine fin ((b_nx s1).trans ((b_skip c0).trans ((b_skip c1).trans ((b_skip c2).trans ((b_skip c3).trans ((b_skip c4).trans (b_hit (c 5) (b_ret (s_ret ad))))))))) m3 ?_ ?_ ?_ <;> rw [tl_add, tl_add, w40]
    · exact lowL_app (lowL_app (one (by decide)) lw) y3
    · rw [List.length_append, List.length_append]; simp only [List.length_cons, List.length_nil]; omega
    · have := no_suf ht (by decide) y1
      rw [← e] at this
      rw [List.append_assoc]
      exact this
  have c5 := c 5
  rw [show (way == 5) = false by simpa using w5] at c5
  by_cases w6 : way = 6
  · subst w6
    have a1 : (eBin .Add (eVar 1) (eStr " ")).sem (r3 d1 s (some (.int 6))) = .ok (.v (.str (s ++ " "))) (r3 d1 s (some (.int 6))) false := str_add (τ1 := false) (τ2 := false) v1 rfl (by rw [l20]; omega)
    have ad : (eBin .Add (eBin .Add (eVar 1) (eStr " ")) (eVar 1)).sem (r3 d1 s (some (.int 6))) = .ok (.v (.str (s ++ " " ++ s))) (r3 d1 s (some (.int 6))) false := str_add (τ1 := false) (τ2 := false) a1 v1 (by rw [addS_len, l20]; omega)
    refine fin ((b_nx s1).trans ((b_skip c0).trans ((b_skip c1).trans ((b_skip c2).trans ((b_skip c3).trans ((b_skip c4).trans ((b_skip c5).trans (b_hit (c 6) (b_ret (s_ret ad)))))))))) q2 ?_ ?_ ?_ <;> rw [tl_add, tl_add, w20]
    · exact lowL_app (lowL_app lw (one (by decide))) lw
    · rw [List.length_append, List.length_append]; simp only [List.length_cons, List.length_nil]; omega
    · rw [List.append_assoc, e]; exact no_end ht (by decide) 32 (.inl rfl) _
  have c6 := c 6
  rw [show (way == 6) = false by simpa using w6] at c6
  by_cases w7 : way = 7
  · subst w7
    have a1 : (eBin .Add (eStr "(") (eVar 1)).sem (r3 d1 s (some (.int 7))) = .ok (.v (.str ("(" ++ s))) (r3 d1 s (some (.int 7))) false := str_add (ρ1 := (r3 d1 s (some (.int 7)))) (τ1 := false) (τ2 := false) rfl v1 (by rw [l40]; omega)
    have w9 : tl " \"a)" = [32, 34, 97, 41] := by decide +kernel
    have l9 : (" \"a)" : Str).length = 4 := by decide +kernel
    have ad : (eBin .Add (eBin .Add (eStr "(") (eVar 1)) (eStr " \"a)")).sem (r3 d1 s (some (.int 7))) = .ok (.v (.str ("(" ++ s ++ " \"a)"))) (r3 d1 s (some (.int 7))) false := str_add (τ1 := false) (τ2 := false) a1 rfl (by rw [addS_len, l40, l9]; omega)
    refine fin ((b_nx s1).trans ((b_skip c0).trans ((b_skip c1).trans ((b_skip c2).trans ((b_skip c3).trans ((b_skip c4).trans ((b_skip c5).trans ((b_skip c6).trans (b_hit (c 7) (b_ret (s_ret ad))))))))))) q2 ?_ ?_ ?_ <;> rw [tl_add, tl_add, w40, w9]
    · exact lowL_app (lowL_app (one (by decide)) lw) (by intro c hc; simp at hc; omega)
    · rw [List.length_append, List.length_append]; simp only [List.length_cons, List.length_nil]; omega
    · have := no_suf ht (by decide) (suf := [32, 34, 97, 41]) (by decide)
      rw [← e] at this
      rw [List.append_assoc]
      exact this
  have c7 := c 7
  rw [show (way == 7) = false by simpa using w7] at c7
  have a1 : (eBin .Add (eStr "(") (eVar 1)).sem (r3 d1 s (some (.int way))) = .ok (.v (.str ("(" ++ s))) (r3 d1 s (some (.int way))) false := str_add (ρ1 := (r3 d1 s (some (.int way)))) (τ1 := false) (τ2 := false) rfl v1 (by rw [l40]; omega)
  obtain ⟨x, d2, m1, m2, m3⟩ := e_pick q2 (row := rows8.map T.str) (by decide) (by decide) (by decide) (a := eLst (xs [(eStr "\"\")"), (eStr "\n)"), (eStr " \"\t\")"), (eStr " 1 )"), (eStr "( )")])) (r := [some (.str s), some (.int way)]) rfl
  obtain ⟨y, hy, rfl⟩ := List.mem_map.mp m1
  obtain ⟨y1, y2, y3⟩ := rows8_ok y hy
  have ad := str_add a1 m2 (by rw [addS_len, l40]; have := len_tl y; omega)
  refine fin ((b_nx s1).trans ((b_skip c0).trans ((b_skip c1).trans ((b_skip c2).trans ((b_skip c3).trans ((b_skip c4).trans ((b_skip c5).trans ((b_skip c6).trans ((b_skip c7).trans (b_ret (s_ret ad))))))))))) m3 ?_ ?_ ?_ <;> rw [tl_add, tl_add, w40]
  · exact lowL_app (lowL_app (one (by decide)) lw) y3
  · rw [List.length_append, List.length_append]; simp only [List.length_cons, List.length_nil]; omega
  · have := no_suf ht (by decide) y1
    rw [← e] at this
    rw [List.append_assoc]
    exact this
end K83
set_option Elab.async false
set_option linter.all false
set_option maxRecDepth 100000
set_option maxHeartbeats 400000
/-! k83: the law. -/
namespace K83
open PySem L2 Pv
theorem cut63 (ns : List Int) (h : ns.length ≤ 63) : cutL ns none (some 63) = ns := by
  unfold cutL
  rw [HT.sIx_none, show (some (63 : Int)) = some ((63 : Nat) : Int) from rfl, HT.sIx_nat, List.drop_zero]
  exact List.take_of_length_le (by omega)
theorem begin_ok (ns : List Int) (h : ns.length ≤ 63) : φ_law_begin [.fro ns] = .ok (ds 0 0 0 0 ns) [some (.fro ns)] := by
  have sl : (eSlH (eVar 0) (eInt 63)).sem [some (.fro ns)] = .ok (.v (.lst (ns.map .int))) [some (.fro ns)] false := by
    show opSem [(eVar 0).sem, intSem (eInt 63).sem] (f2 slHF) [some (.fro ns)] = _
    unfold opSem
    rw [ev2 (o1 := .v (.fro ns)) (o2 := .v (.int 63)) (ρ1 := [some (.fro ns)]) (ρ2 := [some (.fro ns)]) (τ1 := false) (τ2 := false) rfl rfl rfl rfl]
    simp only [f2, getO, slHF, sliceT, cut63 ns h]
    rfl
  have im : T.imms (ns.map T.int) = true := by
    induction ns with
    | nil => rfl
    | cons n r ih => exact ih (by simp at h; omega) (by
        have e := cut63 r (by simp at h; omega)
        show opSem [(eVar 0).sem, intSem (eInt 63).sem] (f2 slHF) [some (.fro r)] = _
        unfold opSem
        rw [ev2 (o1 := .v (.fro r)) (o2 := .v (.int 63)) (ρ1 := [some (.fro r)]) (ρ2 := [some (.fro r)]) (τ1 := false) (τ2 := false) rfl rfl rfl rfl]
        simp only [f2, getO, slHF, sliceT, e]
        rfl)
  have li : (eList (eSlH (eVar 0) (eInt 63))).sem [some (.fro ns)] = .ok (.v (.lst (ns.map .int))) [some (.fro ns)] false := by
    show opSem [(eSlH (eVar 0) (eInt 63)).sem] (f1 listT) [some (.fro ns)] = _
    unfold opSem
    rw [ev1 sl rfl]
    simp only [f1, getO, listT, im, if_true]
  have ls : (eLst (xs [(eInt 0), (eInt 0), (eInt 0), (eInt 0), (eList (eSlH (eVar 0) (eInt 63)))])).sem [some (.fro ns)] = .ok (.v (ds 0 0 0 0 ns)) [some (.fro ns)] false := by
    show opSem [(eInt 0).sem, (eInt 0).sem, (eInt 0).sem, (eInt 0).sem, (eList (eSlH (eVar 0) (eInt 63))).sem] lstF [some (.fro ns)] = _
    unfold opSem
    rw [evc (t := .int 0) (τ1 := false) (ρ1 := [some (.fro ns)]) rfl (evc (t := .int 0) (τ1 := false) (ρ1 := [some (.fro ns)]) rfl (evc (t := .int 0) (τ1 := false) (ρ1 := [some (.fro ns)]) rfl (evc (t := .int 0) (τ1 := false) (ρ1 := [some (.fro ns)]) rfl (evc li evn))))]
    rfl
  exact fn_ret rfl (b_ret (s_ret ls)) rfl rfl
theorem rare_ok {d : T} (hd : Dg d) : ∃ b d', φ_law_rare [d, .int 9] = .ok (.bl b) [some d', some (.int 9)] ∧ Dg d' := by
  obtain ⟨ts0, e0⟩ := dg_shape hd
  obtain ⟨k, d1, q1, q2, q3, q4, q5⟩ := e_draw hd (m := 9) (by decide) (a := eVar 1) (r := [some (.int 9)]) rfl
  have cm : (eCmp .Eq (eCall F_law_draw (xs [(eVar 0), (eVar 1)])) (eBin .FloorDiv (eVar 1) (eInt 2))).sem [some d, some (.int 9)] = .ok (.v (.bl (k == 4))) [some d1, some (.int 9)] true :=
    e_cmp (τ2 := false) (o2 := .v (.int 4)) (y := .int 4) q1 rfl rfl rfl rfl rfl rfl
  exact ⟨_, d1, fn_ret (b := b_law_rare) rfl (b_ret (s_ret cm)) (by rw [e0]; rfl) (by rw [e0]; rfl), q2⟩
theorem ne_same {a b : Ex} {ρ ρ1 ρ2 : Rho} {t : T} {τ1 τ2 : Bool} (h1 : a.sem ρ = .ok (.v t) ρ1 τ1) (h2 : b.sem ρ1 = .ok (.v t) ρ2 τ2) (e : eqT t t = some true) : (bCmp .NotEq a b).sem ρ = .ok false ρ2 (τ1 || τ2) := by
  refine b_cmp h1 h2 rfl rfl rfl rfl ?_
  show (eqT t t).map (!·) = _
  rw [e]; rfl
theorem e_mult {x : Str} {n : Nat} {ρ : Rho} (h1 : 1 ≤ n) (h2 : n ≤ 400000) (hx : x.length ≤ 2) : (eBin .Mult (eStr x) (eInt n)).sem ρ = .ok (.v (.str ⟨(List.replicate n x.cps.toList).flatten.toArray⟩)) ρ false := by
  refine e_bin (τ1 := false) (τ2 := false) (o1 := .v (.str x)) (o2 := .v (.int n)) (x := .str x) (y := .int n) rfl rfl rfl rfl rfl rfl ?_
  have h : (1 : Int) ≤ (n : Int) ∧ (n : Int) ≤ 16777216 ∧ x.length * (n : Int).toNat ≤ 16777216 := ⟨by omega, by omega, by
    rw [Int.toNat_natCast]
    have := Nat.mul_le_mul hx h2
    omega⟩
  exact if_pos h
theorem rep_one (n c : Nat) : (List.replicate n [c]).flatten = List.replicate n c := by
  induction n with
  | zero => rfl
  | succ n ih => rw [List.replicate_succ, List.flatten_cons, ih]; rfl
theorem e_rep {x : Str} {c n : Nat} {ρ : Rho} (h1 : 1 ≤ n) (h2 : n ≤ 400000) (hx : tl x = [c]) : (eBin .Mult (eStr x) (eInt n)).sem ρ = .ok (.v (.str (tx (List.replicate n c)))) ρ false := by
  have := e_mult (x := x) (n := n) (ρ := ρ) h1 h2 (by rw [← len_tl, hx]; show 1 ≤ 2; decide)
  rw [this]
  have e : (List.replicate n x.cps.toList).flatten = List.replicate n c := by
    have hx' : x.cps.toList = [c] := hx
    rw [hx', rep_one]
  rw [e]
theorem low_rep {c n : Nat} (h : c < 100 + 100) : lowL (List.replicate n c) := fun x hx => by
  have := List.eq_of_mem_replicate hx
  omega
section
variable {ns : List Int}
abbrev rl (ns : List Int) (d v : T) (x : Str) : Rho := [some (.fro ns), some d, some v, some (.str x), none]
theorem e_reads {a : Ex} {ρ ρ1 : Rho} {y : Str} {b τ : Bool} (h : a.sem ρ = .ok (.v (.str y)) ρ1 τ) (hr : φ_law_reads [.str y] = .ok (.bl b) [some (.str y)]) : (bTruth (eCall F_law_reads (xs [a]))).sem ρ = .ok b ρ1 τ := by
  have cl := e_call (F := F_law_reads) (ρ := ρ) (ρ1 := ρ1) (ρ2 := ρ1) (a := xs [a]) (os := [.v (.str y)]) (ts := [.str y]) (r := .bl b) (ρA := [some (.str y)]) (τ := τ) (ev1 h rfl) rfl rfl rfl hr rfl
  have := b_tru (a := eCall F_law_reads (xs [a])) (t := .bl b) (k := b) cl rfl rfl
  rw [this]
  simp [slots, O.slot]
theorem tl_cat3 {a b c : Str} {x y z : List Nat} (h1 : tl a = x) (h2 : tl b = y) (h3 : tl c = z) : tl (a ++ b ++ c) = x ++ y ++ z := by rw [tl_add, tl_add, h1, h2, h3]
theorem z1 : tl "z" = [122] := by decide +kernel
theorem lq : ("\"" : Str).length = 1 := by decide +kernel
def zS (n : Nat) : Str := "\"" ++ tx (List.replicate n 122) ++ "\""
theorem zt (ρ : Rho) (n : Nat) (h1 : 1 ≤ n) (h2 : n ≤ 10000) : (eBin .Add (eBin .Add (eStr "\"") (eBin .Mult (eStr "z") (eInt n))) (eStr "\"")).sem ρ = .ok (.v (.str (zS n))) ρ false := by
  have lr : (tx (List.replicate n 122)).length = n := by rw [← len_tl, tl_tx, List.length_replicate]
  have a1 := str_add (a := eStr "\"") (ρ := ρ) (ρ1 := ρ) (x := "\"") (τ1 := false) rfl (e_rep (c := 122) h1 (by omega) z1) (by rw [lq, lr]; omega)
  exact str_add (τ2 := false) a1 rfl (by rw [addS_len, lq, lr]; omega)
theorem zl (n : Nat) : tl (zS n) = 34 :: (List.replicate n 122 ++ [34]) := by unfold zS; rw [tl_cat3 q_tl (tl_tx _) q_tl]; simp
theorem zlow (n : Nat) (h : n ≤ 10000) : lowS (zS n) := lowS_of (by
    rw [zl]
    exact lowL_app (a := [34]) (fun c hc => by simp at hc; omega) (lowL_app (low_rep (by decide)) (fun c hc => by simp at hc; omega))) (by rw [zl]; simp; omega)
theorem z_str (n : Nat) (h : n ≤ 6400) : Ok 60 (.str (tx (List.replicate n 122))) := by
  simp only [Ok, okStr, Bool.and_eq_true, decide_eq_true_eq, List.all_eq_true]
  refine ⟨fun c hc => ?_, ?_⟩
  · have hc' : c ∈ List.replicate n 122 := by simpa [tx] using hc
    have : c = 122 := List.eq_of_mem_replicate hc'
    subst this; exact ⟨rfl, rfl⟩
  · rw [← len_tl, tl_tx, List.length_replicate]; exact h
theorem z_W (n : Nat) : tl (zS n) = W (.str (tx (List.replicate n 122))) := by rw [zl]; simp only [W]
theorem z_good (ρ : Rho) : (bTruth (eCall F_law_reads (xs [(eBin .Add (eBin .Add (eStr "\"") (eBin .Mult (eStr "z") (eInt 6400))) (eStr "\""))]))).sem ρ = .ok true ρ false :=
  e_reads (zt ρ 6400 (by decide) (by decide)) (reads_good (zlow 6400 (by decide)) (z_str 6400 (by decide)) (z_W 6400))
theorem z_bad (ρ : Rho) : (bTruth (eCall F_law_reads (xs [(eBin .Add (eBin .Add (eStr "\"") (eBin .Mult (eStr "z") (eInt 6401))) (eStr "\""))]))).sem ρ = .ok false ρ false :=
  e_reads (zt ρ 6401 (by decide) (by decide)) (reads_bad (zlow 6401 (by decide)) ((congrArg acc (zl 6401)).trans (no_long _)))
theorem o1 : tl "0" = [48] := by decide +kernel
theorem o2 : tl "1" = [49] := by decide +kernel
theorem l1 : ("1" : Str).length = 1 := by decide +kernel
def dS (n : Nat) : Str := "1" ++ tx (List.replicate n 48)
theorem dt (ρ : Rho) (n : Nat) (h1 : 1 ≤ n) (h2 : n ≤ 10000) : (eBin .Add (eStr "1") (eBin .Mult (eStr "0") (eInt n))).sem ρ = .ok (.v (.str (dS n))) ρ false := by
  have lr : (tx (List.replicate n 48)).length = n := by rw [← len_tl, tl_tx, List.length_replicate]
  exact str_add (a := eStr "1") (ρ := ρ) (ρ1 := ρ) (x := "1") (τ1 := false) rfl (e_rep (c := 48) h1 (by omega) o1) (by rw [l1, lr]; omega)
theorem dl (n : Nat) : tl (dS n) = 49 :: List.replicate n 48 := by unfold dS; rw [tl_add, o2, tl_tx]; rfl
theorem dlow (n : Nat) (h : n ≤ 10000) : lowS (dS n) := lowS_of (by
    rw [dl]
    exact lowL_app (a := [49]) (fun c hc => by simp at hc; omega) (low_rep (by decide))) (by rw [dl]; simp; omega)
theorem pw (n : Nat) : dg (10 ^ n) = 49 :: List.replicate n 48 := by
  induction n with
  | zero => exact dg_one (by decide)
  | succ n ih =>
    have h10 : 10 ^ (n + 1) / 10 = 10 ^ n := by rw [Nat.pow_succ]; exact Nat.mul_div_cancel _ (by decide)
    have h0 : 10 ^ (n + 1) % 10 = 0 := by rw [Nat.pow_succ]; exact Nat.mul_mod_left _ _
    have hge : ¬ 10 ^ (n + 1) < 10 := by
      have : 1 ≤ 10 ^ n := Nat.one_le_pow _ _ (by decide)
      rw [Nat.pow_succ]; omega
    rw [dg_more hge, h10, h0, ih, List.replicate_succ' (n := n)]
    rfl
theorem d_ok (n : Nat) (h : n < 2500) : Ok 60 (.int ((10 ^ n : Nat) : Int)) := by
  simp only [Ok]
  rw [Int.natAbs_natCast]
  exact Nat.pow_lt_pow_right (by decide) h
theorem d_W (n : Nat) : tl (dS n) = W (.int ((10 ^ n : Nat) : Int)) := by
  rw [dl]
  show _ = wInt _
  rw [wInt_nat, pw]
theorem d_good (ρ : Rho) : (bTruth (eCall F_law_reads (xs [(eBin .Add (eStr "1") (eBin .Mult (eStr "0") (eInt 2499)))]))).sem ρ = .ok true ρ false :=
  e_reads (dt ρ 2499 (by decide) (by decide)) (reads_good (dlow 2499 (by decide)) (d_ok 2499 (by decide)) (d_W 2499))
theorem no_many' : acc (49 :: List.replicate 2500 48) = false := by
  have := no_many []
  rw [List.append_nil] at this
  exact this
theorem d_bad (ρ : Rho) : (bTruth (eCall F_law_reads (xs [(eBin .Add (eStr "1") (eBin .Mult (eStr "0") (eInt 2500)))]))).sem ρ = .ok false ρ false :=
  e_reads (dt ρ 2500 (by decide) (by decide)) (reads_bad (dlow 2500 (by decide)) ((congrArg acc (dl 2500)).trans no_many'))
theorem mul_len (n : Nat) (x : Str) : (⟨(List.replicate n x.cps.toList).flatten.toArray⟩ : Str).length = n * x.length := by
  have e : x.cps.toList.length = x.length := len_list x
  show (List.replicate n x.cps.toList).flatten.toArray.size = _
  rw [List.size_toArray, List.length_flatten, List.map_replicate, List.sum_replicate_nat, e]
theorem long_n (ρ : Rho) (n : Nat) (h1 : 1 ≤ n) (h2 : n ≤ 400000) : ∃ big : Str, (eBin .Add (eBin .Add (eStr "(") (eBin .Mult (eStr "1 ") (eInt n))) (eStr "1)")).sem ρ = .ok (.v (.str big)) ρ false ∧ big.length = 2 * n + 3 := by
  have l2 : ("1 " : Str).length = 2 := by decide +kernel
  have l3 : ("(" : Str).length = 1 := by decide +kernel
  have l4 : ("1)" : Str).length = 2 := by decide +kernel
  have lg := mul_len n "1 "
  rw [l2] at lg
  have m := e_mult (x := "1 ") (n := n) (ρ := ρ) h1 h2 (by rw [l2]; decide)
  generalize (⟨(List.replicate n ("1 " : Str).cps.toList).flatten.toArray⟩ : Str) = q at *
  have a1 := str_add (a := eStr "(") (ρ := ρ) (ρ1 := ρ) (x := "(") (τ1 := false) rfl m (by rw [l3, lg]; omega)
  have a2 := str_add (b := eStr "1)") (y := "1)") (τ2 := false) a1 rfl (by rw [addS_len, l3, lg, l4]; omega)
  exact ⟨_, a2, by rw [addS_len, addS_len, l3, lg, l4]; omega⟩
theorem long_txt (ρ : Rho) : ∃ big : Str, (eBin .Add (eBin .Add (eStr "(") (eBin .Mult (eStr "1 ") (eInt 200000))) (eStr "1)")).sem ρ = .ok (.v (.str big)) ρ false ∧ big.length = 400003 := long_n ρ 200000 (by decide) (by decide)
theorem n_call (ρ : Rho) (k : Nat) (hk : k < 900) : (eCall F_law_nested (xs [(eInt ((k + 1 : Nat) : Int))])).sem ρ = .ok (.v (nest k)) ρ false :=
  e_call (F := F_law_nested) (ρ1 := ρ) (τ := false) (os := [.v (.int ((k + 1 : Nat) : Int))]) (ts := [.int ((k + 1 : Nat) : Int)]) rfl rfl rfl rfl (nested_ok (k + 1) (by omega) (by omega)) rfl
theorem n_len (k : Nat) : (W (nest k)).length = 2 * k + 2 := by rw [nest_W, List.length_append, List.length_replicate, List.length_replicate]; omega
theorem n_low (k : Nat) (hk : k < 900) : lowS (tx (W (nest k))) := lowS_of (by rw [tl_tx]; exact W_low _ _ (nest_ok k)) (by rw [tl_tx, n_len]; omega)
theorem up_ok : ∀ (k : Nat) (t : T), Ok k t → Ok (k + 1) t := by
  intro k
  induction k with
  | zero => intro t h; cases t <;> first | (simp only [Ok] at h ⊢; done) | (simp only [Ok] at h ⊢; exact h) | (simp only [Ok] at h)
  | succ k ih =>
    intro t h
    cases t with
    | tup ts =>
      simp only [Ok] at h ⊢
      exact oks_of fun z hz => ih z (oks_mem h hz)
    | non => simp only [Ok]
    | int i => simp only [Ok] at h ⊢; exact h
    | str i => simp only [Ok] at h ⊢; exact h
    | bl i => simp only [Ok] at h
    | lst i => simp only [Ok] at h
    | fro i => simp only [Ok] at h
theorem ups_ok {k : Nat} {t : T} (h : Ok k t) : ∀ {m : Nat}, k ≤ m → Ok m t := fun {m} hm => by
  obtain ⟨j, rfl⟩ := Nat.exists_eq_add_of_le hm
  induction j with
  | zero => exact h
  | succ j ih => exact up_ok _ _ (ih (by omega))
theorem n_good' (ρ : Rho) (k : Nat) (hk : k < 60) : (bCmp .NotEq (eCall F_read_value (xs [(eCall F_write_value (xs [(eCall F_law_nested (xs [(eInt ((k + 1 : Nat) : Int))]))]))])) (eCall F_law_nested (xs [(eInt ((k + 1 : Nat) : Int))]))).sem ρ = .ok false ρ false := by
  have n1 := n_call ρ k (by omega)
  have ok := nest_ok k
  have w1 := write_value_ok ok (by rw [n_len]; omega)
  have wn : (eCall F_write_value (xs [(eCall F_law_nested (xs [(eInt ((k + 1 : Nat) : Int))]))])).sem ρ = .ok (.v (.str (tx (W (nest k))))) ρ false :=
    e_call (F := F_write_value) (ρ1 := ρ) (τ := false) (os := [.v (nest k)]) (ts := [nest k]) (ev1 n1 rfl) rfl rfl rfl w1 rfl
  have g := read_good (n_low k (by omega)) (ups_ok ok (by omega)) (tl_tx _)
  have rn : (eCall F_read_value (xs [(eCall F_write_value (xs [(eCall F_law_nested (xs [(eInt ((k + 1 : Nat) : Int))]))]))])).sem ρ = .ok (.v (nest k)) ρ false :=
    e_call (F := F_read_value) (ρ1 := ρ) (τ := false) (os := [.v (.str (tx (W (nest k))))]) (ts := [.str (tx (W (nest k)))]) (ev1 wn rfl) rfl rfl rfl g rfl
  exact ne_same rn n1 (eq_self ok (by omega))
theorem n_good (ρ : Rho) : (bCmp .NotEq (eCall F_read_value (xs [(eCall F_write_value (xs [(eCall F_law_nested (xs [(eInt 60)]))]))])) (eCall F_law_nested (xs [(eInt 60)]))).sem ρ = .ok false ρ false := n_good' ρ 59 (by decide)
theorem n_bad' (ρ : Rho) (k : Nat) (hk : k < 69) (ha : acc (W (nest k)) = false) : (bTruth (eCall F_law_reads (xs [(eCall F_law_written (xs [(eCall F_law_nested (xs [(eInt ((k + 1 : Nat) : Int))]))]))]))).sem ρ = .ok false ρ false := by
  have n1 := n_call ρ k (by omega)
  have w1 := written_ok DEPTH (k + 1) (nest k) (nest_ok k) (by show k + 1 < 70; omega) (by rw [n_len]; omega)
  have wn : (eCall F_law_written (xs [(eCall F_law_nested (xs [(eInt ((k + 1 : Nat) : Int))]))])).sem ρ = .ok (.v (.str (tx (W (nest k))))) ρ false :=
    e_call (F := F_law_written) (ρ1 := ρ) (τ := false) (os := [.v (nest k)]) (ts := [nest k]) (ev1 n1 rfl) rfl rfl rfl w1 rfl
  exact e_reads wn (reads_bad (n_low k (by omega)) (by rw [tl_tx]; exact ha))
theorem n_acc : acc (W (nest 60)) = false := (congrArg acc (nest_W 60)).trans (no_deep _)
theorem n_bad (ρ : Rho) : (bTruth (eCall F_law_reads (xs [(eCall F_law_written (xs [(eCall F_law_nested (xs [(eInt 61)]))]))]))).sem ρ = .ok false ρ false := n_bad' ρ 60 (by decide) n_acc
theorem eq_int_self (i : Int) : eqT (.int i) (.int i) = some true := by
  unfold eqT
  rw [if_pos ⟨rfl, rfl⟩]
  simp [T.toD, PyData.eqv]
theorem hr_int (ρ : Rho) (i : Int) : f2 (cmpV .Eq) ρ [.v (.int i), .v (.int i)] = some (.bl true) := by
  show (eqT (.int i) (.int i)).map T.bl = _
  rw [eq_int_self]; rfl
set_option maxHeartbeats 8000000 in
theorem law_true (ns : List Int) (hl : ns.length ≤ 63) : ∃ ρ, φ_law [.fro ns] = .ok (.bl true) ρ := by
  have dg0 : Dg (ds 0 0 0 0 ns) := ⟨0, 0, 0, 0, ns, rfl, by decide, by decide, by decide, by decide, by decide⟩
  have s1 : (sSet (gN 1) (eCall F_law_begin (xs [(eVar 0)]))).sem [some (.fro ns), none, none, none, none] = .nx [some (.fro ns), some (ds 0 0 0 0 ns), none, none, none] :=
    s_set (ρ1 := [some (.fro ns), none, none, none, none]) (t := ds 0 0 0 0 ns) (e_call (F := F_law_begin) (ρ1 := [some (.fro ns), none, none, none, none]) (τ := false) (os := [.v (.fro ns)]) (ts := [.fro ns]) rfl rfl rfl rfl (begin_ok ns hl) rfl) rfl
  obtain ⟨v, d1, p1, p2, okv, lv⟩ := value_ok DEPTH 5 (by decide) 40 _ dg0 (by decide)
  have lv : (W v).length ≤ 192840 := lv
  have imv := ok_imm v 5 okv
  have s2 : (sSet (gN 2) (eCall F_law_value (xs [(eVar 1), (eInt 40), (eInt 5)]))).sem [some (.fro ns), some (ds 0 0 0 0 ns), none, none, none] = .nx [some (.fro ns), some d1, some v, none, none] :=
    s_set (ρ1 := [some (.fro ns), some d1, none, none, none]) (t := v) (e_call (F := F_law_value) (ρ1 := [some (.fro ns), some (ds 0 0 0 0 ns), none, none, none]) (τ := false) (os := [.p 1 [], .v (.int 40), .v (.int 5)]) (ts := [ds 0 0 0 0 ns, .int 40, .int 5]) rfl rfl rfl rfl p1 rfl) rfl
  have wv := write_value_ok okv (by omega)
  have v2 : (eVar 2).sem [some (.fro ns), some d1, some v, none, none] = .ok (.v v) [some (.fro ns), some d1, some v, none, none] false := v_imm rfl imv
  have s3 : (sSet (gN 3) (eCall F_write_value (xs [(eVar 2)]))).sem [some (.fro ns), some d1, some v, none, none] = .nx (rl ns d1 v (tx (W v))) :=
    s_set (ρ1 := [some (.fro ns), some d1, some v, none, none]) (t := .str (tx (W v))) (e_call (F := F_write_value) (ρ1 := [some (.fro ns), some d1, some v, none, none]) (τ := false) (os := [.v v]) (ts := [v]) (ev1 v2 rfl) rfl rfl rfl wv rfl) rfl
  generalize hx : tx (W v) = x at *
  have hx' : tl x = W v := by rw [← hx, tl_tx]
  have lowx : lowS x := lowS_of (by rw [hx']; exact W_low v 5 okv) (by rw [hx']; omega)
  have ok60 : Ok 60 v := ups_ok okv (by decide)
  have v2' : ∀ {d : T}, (eVar 2).sem (rl ns d v x) = .ok (.v v) (rl ns d v x) false := v_imm rfl imv
  have v3 : ∀ {d : T}, (eVar 3).sem (rl ns d v x) = .ok (.v (.str x)) (rl ns d v x) false := rfl
  have wr : (eCall F_law_written (xs [(eVar 2)])).sem (rl ns d1 v x) = .ok (.v (.str x)) (rl ns d1 v x) false := by
    have := written_ok DEPTH 5 v okv (by decide) (by omega)
    rw [hx] at this
    exact e_call (F := F_law_written) (ρ1 := rl ns d1 v x) (τ := false) (os := [.v v]) (ts := [v]) (ev1 v2' rfl) rfl rfl rfl this rfl
  have rd : (eCall F_read_value (xs [(eVar 3)])).sem (rl ns d1 v x) = .ok (.v v) (rl ns d1 v x) false :=
    e_call (F := F_read_value) (ρ1 := rl ns d1 v x) (τ := false) (os := [.v (.str x)]) (ts := [.str x]) (ev1 v3 rfl) rfl rfl rfl (read_good lowx ok60 hx') rfl
  have eqx : eqT (.str x) (.str x) = some true := by rw [eq_str lowx.1 lowx.1]; simp
  have c1 := ne_same v3 wr eqx
  have c2 := ne_same rd v2' (eq_self okv (by decide))
  have ndv : nd v ≤ (W v).length := by
    have aux : ∀ k, (∀ t, Ok k t → nd t ≤ (W t).length) := by
      intro k
      induction k with
      | zero =>
        intro t h
        obtain ⟨c, r, e, _⟩ := W_pos t 0 h
        cases t with
        | tup ts => simp only [Ok] at h
        | _ => rw [e]; simp [nd]
      | succ k ih =>
        intro t h
        obtain ⟨c, r, e, _⟩ := W_pos t (k + 1) h
        cases t with
        | tup ts =>
          simp only [Ok] at h
          have r : ∀ us : List T, (∀ u ∈ us, nd u ≤ (W u).length) → nds us ≤ (Wr us).length := fun us hu => by
            induction us with
            | nil => exact Nat.le_refl _
            | cons u us ihu =>
              have a1 := hu u List.mem_cons_self
              have a2 := ihu fun z hz => hu z (List.mem_cons_of_mem _ hz)
              simp only [nds, Wr, List.length_cons, List.length_append]; omega
          have all : ∀ u ∈ ts, nd u ≤ (W u).length := fun u hu => ih u (oks_mem h hu)
          have : nds ts ≤ (Ws ts).length := by
            cases ts with
            | nil => exact Nat.le_refl _
            | cons u us =>
              have a1 := all u List.mem_cons_self
              have a2 := r us fun z hz => all z (List.mem_cons_of_mem _ hz)
              simp only [nds, Ws, List.length_append]; omega
          simp only [nd, W, List.length_cons, List.length_append, List.length_nil]; omega
        | _ => rw [e]; simp [nd]
    exact aux 5 v okv
  have pl : (eCall F_law_is_plain (xs [(eCall F_read_value (xs [(eVar 3)]))])).sem (rl ns d1 v x) = .ok (.v (.bl true)) (rl ns d1 v x) false :=
    e_call (F := F_law_is_plain) (ρ1 := rl ns d1 v x) (τ := false) (os := [.v v]) (ts := [v]) (ev1 rd rfl) rfl rfl rfl (is_plain_law okv (by omega)) rfl
  have c3 := b_not (b_tru pl rfl rfl)
  have i4 := or_f c1 (or_f c2 (or_1.trans c3))
  -- the wrong text
  obtain ⟨y, d2, w1, w2, w3, w4⟩ := wrong_ok p2 okv hx' (by omega)
  obtain ⟨ts1, e1⟩ := dg_shape p2
  have wc : (eCall F_law_wrong (xs [(eVar 1), (eVar 3)])).sem (rl ns d1 v x) = .ok (.v (.str y)) (rl ns d2 v x) true := by
    subst e1
    exact e_call (F := F_law_wrong) (ρ1 := rl ns (.lst ts1) v x) (τ := false) (os := [.p 1 [], .v (.str x)]) (ts := [.lst ts1, .str x]) (ev2 (τ1 := false) (τ2 := false) (v_lst rfl) v3 rfl rfl) rfl rfl rfl w1 rfl
  have c5 := e_reads wc (reads_bad w3 w4)
  have c6 := e_reads (ρ := rl ns d2 v x) (a := eStr "") (y := "") (τ := false) rfl (reads_bad ⟨by decide, by decide +kernel⟩ (by
    have : tl "" = [] := by decide +kernel
    rw [this]; rfl))
  have i5 := or_f c5 (or_1.trans c6)
  have c7 := n_good (rl ns d2 v x)
  have c8 := n_bad (rl ns d2 v x)
  have i6 := or_f c7 (or_1.trans c8)
  have c9 := z_good (rl ns d2 v x)
  have c10 := z_bad (rl ns d2 v x)
  have i7 := or_f (b_not c9) (or_1.trans c10)
  have c11 := d_good (rl ns d2 v x)
  have c12 := d_bad (rl ns d2 v x)
  have i8 := or_f (b_not c11) (or_1.trans c12)
  -- rare
  obtain ⟨b, d3, t1, t2⟩ := rare_ok w2
  obtain ⟨ts2, e2⟩ := dg_shape w2
  have rr : (eCall F_law_rare (xs [(eVar 1), (eInt 9)])).sem (rl ns d2 v x) = .ok (.v (.bl b)) (rl ns d3 v x) true := by
    subst e2
    exact e_call (F := F_law_rare) (ρ1 := rl ns (.lst ts2) v x) (τ := false) (os := [.p 1 [], .v (.int 9)]) (ts := [.lst ts2, .int 9]) rfl rfl rfl rfl t1 rfl
  have c13 := b_tru (t := .bl b) (k := b) rr rfl rfl
  have pre : ∀ {r : RS}, (blk [sIf (bTruth (eCall F_law_rare (xs [(eVar 1), (eInt 9)]))) (blk [sTryRet 1 "TooLarge" 4 "most" .Eq (blk [sExpr (eCall F_read_value (xs [(eBin .Add (eBin .Add (eStr "(") (eBin .Mult (eStr "1 ") (eInt 200000))) (eStr "1)"))]))]) (eInt 400000),
      sRet (eBl false)]) (blk []),
      sRet (eBl true)]).sem (rl ns d2 v x) = r → b_law.sem [some (.fro ns), none, none, none, none] = r := fun {r} h =>
    (b_nx s1).trans ((b_nx s2).trans ((b_nx s3).trans ((b_skip i4).trans ((b_skip i5).trans ((b_skip i6).trans ((b_skip i7).trans ((b_skip i8).trans h)))))))
  cases b with
  | false => exact ⟨_, fn_ret (b := b_law) rfl (pre ((b_skip c13).trans (b_ret (s_ret rfl)))) rfl rfl⟩
  | true =>
    obtain ⟨big, a2, lb⟩ := long_txt (rl ns d3 v x)
    have rl' := read_long (s := big) (by rw [lb, sizeLine_eq]; decide) (by rw [lb]; decide)
    have cl := e_call_ex (F := F_read_value) (a := xs [(eBin .Add (eBin .Add (eStr "(") (eBin .Mult (eStr "1 ") (eInt 200000))) (eStr "1)"))]) (ρ1 := rl ns d3 v x) (os := [.v (.str big)]) (ts := [.str big]) (ρ2 := rl ns d3 v x) (ev1 a2 rfl) rfl rfl rfl rl' rfl
    have bd := b_ex (l := []) (x_ex cl)
    have hb : (eInt 400000).sem ((rl ns d3 v x).set 4 none) = .ok (.v (.int 400000)) (rl ns d3 v x) false := rfl
    have tr := tr_ex (i := 4) (cn := "TooLarge") (f := "most") bd (by show 4 < 5; decide) hb (hr_int _ _)
    have fin := pre (b_hit c13 (b_ret tr))
    exact ⟨_, fn_ret (b := b_law) rfl fin rfl rfl⟩
end
end K83
set_option Elab.async false
set_option linter.all false
set_option maxRecDepth 100000
set_option maxHeartbeats 2000000
/-! k83: the end. -/
namespace Pv
open PySem L2
/-- the law's own promise: it gives True at every script -/
def spL (K : PySem.W.Frag) : Sp := fun vs H Q _ => ∃ (a : Addr) (ns : List Int), vs = [.ref a] ∧ ns.length ≤ 63 ∧ Only H ∧ SqL K H a (ns.map .int) ∧ ∀ H', Q (.bl true) H'
theorem spL_end {K : PySem.W.Frag} {xi : XI} {φ : List T → FR} (hφ : ∀ ns : List Int, ns.length ≤ 63 → ∃ ρ, φ [.fro ns] = .ok (.bl true) ρ) {vs : List V} {H : Hp} {Q : VK} {E : XK} (h : spL K vs H Q E) : spF K xi 1 φ vs H Q E := by
  obtain ⟨a, ns, rfl, hl, ho, hs, q⟩ := h
  obtain ⟨ρ, e⟩ := hφ ns hl
  refine ⟨[.fro ns], fun _ => [], rfl, ⟨rfl, fun i t h => ?_, fun _ _ => rfl, fun _ => .nil, fun _ _ _ h => by cases h⟩, ?_⟩
  · cases i with
    | zero =>
      cases h
      refine ⟨.ref a, rfl, rfl, a, rfl, ?_⟩
      rcases hs with (hs | ⟨o, hs⟩) | hs
      · rcases ho a with z | ⟨o, xs, z⟩
        · rw [z] at hs; cases hs
        · rw [z] at hs; cases hs
      · exact .inl ⟨o, hs⟩
      · exact .inr fun _ => .inr hs
    | succ i => simp at h
  · rw [e]
    intro v H' fp' fo _ _ r
    rw [r.1]
    exact q H'
theorem cx_end {P : Program} {w : World} (H : Hp) (s : Shared) (e : Value) (s' : Shared) (h : L2.CX P w [] H s (fun _ _ _ => False) e s') : False := by
  obtain ⟨_, _, _, _, _, _, _, _, _, _, _, _, z⟩ := h
  exact z.elim
/-- a def of which nothing is promised -/
theorem has_none {P : Program} {w : World} {K : PySem.W.Frag} {mg : Str → Option Value} {base : Heap} {xi : XI} {x : Str} {st : Stmt} {f : Addr} {fd : FuncData} {ps : List Str} {k n : Nat} (F : L2.Fun K x x st f fd) (B : Binds K fd ps []) (g : mg x = some (.ref f)) :
    Has ⟨P, w, K, mg, base, xi⟩ k ⟨x, n, fun _ => .stuck⟩ := ⟨f, fd, ps, g, F.kp, B, ⟨fun vs H Q E h => by obtain ⟨_, _, _, _, z⟩ := h; exact z.elim, fun A outer s H args us vs Q E _ _ _ _ h => by obtain ⟨_, _, _, _, z⟩ := h; exact z.elim⟩⟩
theorem has_of {P : Program} {w : World} {K : PySem.W.Frag} {mg : Str → Option Value} {base : Heap} {xi : XI} {x : Str} {st : Stmt} {f : Addr} {fd : FuncData} {N ps : List Str} {k n np : Nat} {b : Bl} {F0 : Fn} (e : F0 = ⟨x, np, fnSem n b⟩) (D : DefOk st N ps b) (hn : n = N.length) (hp : np = ps.length) (F : L2.Fun K x x st f fd) (B : Binds K fd ps []) (g : mg x = some (.ref f)) (p : b.pre ⟨P, w, K, mg, base, xi⟩ k) :
    Has ⟨P, w, K, mg, base, xi⟩ (k + 1) F0 := by
  subst e hn hp
  exact has_def F B g D p
end Pv
namespace K83
open PySem L2 Pv
/-- an error of the class at S is what «except S» names -/
theorem exm_self {K : PySem.W.Frag} {S : Addr} (h1 : PySem.W.subIn K (.ref S) (.type "BaseException") = some true) (h2 : PySem.W.isClsIn K S = true) (h3 : PySem.W.typeIn K (.ref S) = some (.type "type")) (h4 : PySem.W.subIn K (.ref S) (.ref S) = some true) :
    PySem.W.exmOne K (.ref S) (.ref S) = some true := by
  have e1 : (PySem.W.subIn K (.ref S) (.type "BaseException") == some true) = true := by rw [h1] <;> rfl
  have e2 : ((PySem.W.clsIn K S).isSome && PySem.W.typeIn K (.ref S) == some (.type "type")) = true := by
    have h2' : (PySem.W.clsIn K S).isSome = true := h2
    rw [h2', h3] <;> rfl
  show (if (PySem.W.subIn K (.ref S) (.type "BaseException") == some true) = true then (if ((PySem.W.clsIn K S).isSome && PySem.W.typeIn K (.ref S) == some (.type "type")) = true then PySem.W.subIn K (.ref S) (.ref S) else none) else none) = some true
  rw [if_pos e1, if_pos e2]
  exact h4
/-! ### what the top has written, and the chain of the promises -/
set_option maxHeartbeats 0 in
theorem all_mk {w : World} {K : PySem.W.Frag} {h : Heap} {mg : Str → Option Value} {fa : Addr} (X : K.In h) (G : h.Ns mainGlobals mg) (hfa : mg "law" = some (.ref fa))
    {f0 : Addr} {od0 an0 : Option Addr} {sl0 : Array (Option Value)} {oc0 kV0 dc0 pm0 cd0 ct0 : Value}
    {f1 : Addr} {od1 an1 : Option Addr} {sl1 : Array (Option Value)} {oc1 kV1 dc1 pm1 cd1 ct1 : Value}
    {f2 : Addr} {od2 an2 : Option Addr} {sl2 : Array (Option Value)} {oc2 kV2 dc2 pm2 cd2 ct2 : Value}
    {f3 : Addr} {od3 an3 : Option Addr} {sl3 : Array (Option Value)} {oc3 kV3 dc3 pm3 cd3 ct3 : Value}
    {f4 : Addr} {od4 an4 : Option Addr} {sl4 : Array (Option Value)} {oc4 kV4 dc4 pm4 cd4 ct4 : Value}
    {f5 : Addr} {od5 an5 : Option Addr} {sl5 : Array (Option Value)} {oc5 kV5 dc5 pm5 cd5 ct5 : Value}
    {f6 : Addr} {od6 an6 : Option Addr} {sl6 : Array (Option Value)} {oc6 kV6 dc6 pm6 cd6 ct6 : Value}
    {f7 : Addr} {od7 an7 : Option Addr} {sl7 : Array (Option Value)} {oc7 kV7 dc7 pm7 cd7 ct7 : Value}
    {f8 : Addr} {od8 an8 : Option Addr} {sl8 : Array (Option Value)} {oc8 kV8 dc8 pm8 cd8 ct8 : Value}
    {f9 : Addr} {od9 an9 : Option Addr} {sl9 : Array (Option Value)} {oc9 kV9 dc9 pm9 cd9 ct9 : Value}
    {f10 : Addr} {od10 an10 : Option Addr} {sl10 : Array (Option Value)} {oc10 kV10 dc10 pm10 cd10 ct10 : Value}
    {f11 : Addr} {od11 an11 : Option Addr} {sl11 : Array (Option Value)} {oc11 kV11 dc11 pm11 cd11 ct11 : Value}
    {f12 : Addr} {od12 an12 : Option Addr} {sl12 : Array (Option Value)} {oc12 kV12 dc12 pm12 cd12 ct12 : Value}
    {f13 : Addr} {od13 an13 : Option Addr} {sl13 : Array (Option Value)} {oc13 kV13 dc13 pm13 cd13 ct13 : Value}
    {f14 : Addr} {od14 an14 : Option Addr} {sl14 : Array (Option Value)} {oc14 kV14 dc14 pm14 cd14 ct14 : Value}
    {f15 : Addr} {od15 an15 : Option Addr} {sl15 : Array (Option Value)} {oc15 kV15 dc15 pm15 cd15 ct15 : Value}
    {f16 : Addr} {od16 an16 : Option Addr} {sl16 : Array (Option Value)} {oc16 kV16 dc16 pm16 cd16 ct16 : Value}
    {f17 : Addr} {od17 an17 : Option Addr} {sl17 : Array (Option Value)} {oc17 kV17 dc17 pm17 cd17 ct17 : Value}
    {f18 : Addr} {od18 an18 : Option Addr} {sl18 : Array (Option Value)} {oc18 kV18 dc18 pm18 cd18 ct18 : Value}
    {f19 : Addr} {od19 an19 : Option Addr} {sl19 : Array (Option Value)} {oc19 kV19 dc19 pm19 cd19 ct19 : Value}
    {f20 : Addr} {od20 an20 : Option Addr} {sl20 : Array (Option Value)} {oc20 kV20 dc20 pm20 cd20 ct20 : Value}
    {t_DIGITS : Tok}
    {t_DIGITS_MOST : Tok}
    {t_STRING_MOST : Tok}
    {t_DEPTH_MOST : Tok}
    {t_DOSSIER_MOST : Tok}
    {Cx0 Ix0 ccx0 cdax0 Wx0 Nx0 : Addr} {nmx0 qnx0 : Str} {bsx0 sbx0 : List Value} {snx0 : List Str} {abx0 : Bool} {colx0 : Option Bool} {ddx0 : Option Addr} {m0x0 m1x0 m2x0 m3x0 m5x0 : Option Value}
    {ocx0 dcx0 pmx0 ctx0 clx0 cclx0 : Value} {odx0 anx0 cldx0 cddx0 : Option Addr} {oslx0 cslx0 ccsx0 : Array (Option Value)} {vsx0 : Array Value} {filex0 : Str} {tfx0 : Tok}
    {Cx1 Ix1 ccx1 cdax1 Wx1 Nx1 : Addr} {nmx1 qnx1 : Str} {bsx1 sbx1 : List Value} {snx1 : List Str} {abx1 : Bool} {colx1 : Option Bool} {ddx1 : Option Addr} {m0x1 m1x1 m2x1 m3x1 m5x1 : Option Value}
    {ocx1 dcx1 pmx1 ctx1 clx1 cclx1 : Value} {odx1 anx1 cldx1 cddx1 : Option Addr} {oslx1 cslx1 ccsx1 : Array (Option Value)} {vsx1 : Array Value} {filex1 : Str} {tfx1 : Tok}
    (a0 : PySem.W.nsIn K mainGlobals "_law_begin" = some (some (.ref f0)))
    (l0 : K.lookup f0 = some ⟨oc0, od0, .func (PySem.W.fnOf "_law_begin" "_law_begin" (defArgs (top 19)) (defBody (top 19)) (defScope (top 19)) .none kV0 dc0 pm0 an0 cd0 ct0), sl0⟩)
    (c0 : PySem.W.codeIn K cd0 "_law_begin" = true)
    (k0 : PySem.W.keepIn K (.ref f0) = true)
    (a1 : PySem.W.nsIn K mainGlobals "_law_draw" = some (some (.ref f1)))
    (l1 : K.lookup f1 = some ⟨oc1, od1, .func (PySem.W.fnOf "_law_draw" "_law_draw" (defArgs (top 20)) (defBody (top 20)) (defScope (top 20)) .none kV1 dc1 pm1 an1 cd1 ct1), sl1⟩)
    (c1 : PySem.W.codeIn K cd1 "_law_draw" = true)
    (k1 : PySem.W.keepIn K (.ref f1) = true)
    (a2 : PySem.W.nsIn K mainGlobals "_law_pick" = some (some (.ref f2)))
    (l2 : K.lookup f2 = some ⟨oc2, od2, .func (PySem.W.fnOf "_law_pick" "_law_pick" (defArgs (top 21)) (defBody (top 21)) (defScope (top 21)) .none kV2 dc2 pm2 an2 cd2 ct2), sl2⟩)
    (c2 : PySem.W.codeIn K cd2 "_law_pick" = true)
    (k2 : PySem.W.keepIn K (.ref f2) = true)
    (a3 : PySem.W.nsIn K mainGlobals "_law_pool" = some (some (.ref f3)))
    (l3 : K.lookup f3 = some ⟨oc3, od3, .func (PySem.W.fnOf "_law_pool" "_law_pool" (defArgs (top 23)) (defBody (top 23)) (defScope (top 23)) .none kV3 dc3 pm3 an3 cd3 ct3), sl3⟩)
    (c3 : PySem.W.codeIn K cd3 "_law_pool" = true)
    (k3 : PySem.W.keepIn K (.ref f3) = true)
    (a4 : PySem.W.nsIn K mainGlobals "_law_leaf" = some (some (.ref f4)))
    (l4 : K.lookup f4 = some ⟨oc4, od4, .func (PySem.W.fnOf "_law_leaf" "_law_leaf" (defArgs (top 26)) (defBody (top 26)) (defScope (top 26)) .none kV4 dc4 pm4 an4 cd4 ct4), sl4⟩)
    (c4 : PySem.W.codeIn K cd4 "_law_leaf" = true)
    (k4 : PySem.W.keepIn K (.ref f4) = true)
    (a5 : PySem.W.nsIn K mainGlobals "_law_value" = some (some (.ref f5)))
    (l5 : K.lookup f5 = some ⟨oc5, od5, .func (PySem.W.fnOf "_law_value" "_law_value" (defArgs (top 27)) (defBody (top 27)) (defScope (top 27)) .none kV5 dc5 pm5 an5 cd5 ct5), sl5⟩)
    (c5 : PySem.W.codeIn K cd5 "_law_value" = true)
    (k5 : PySem.W.keepIn K (.ref f5) = true)
    (a6 : PySem.W.nsIn K mainGlobals "write_value" = some (some (.ref f6)))
    (l6 : K.lookup f6 = some ⟨oc6, od6, .func (PySem.W.fnOf "write_value" "write_value" (defArgs (top 12)) (defBody (top 12)) (defScope (top 12)) .none kV6 dc6 pm6 an6 cd6 ct6), sl6⟩)
    (c6 : PySem.W.codeIn K cd6 "write_value" = true)
    (k6 : PySem.W.keepIn K (.ref f6) = true)
    (a7 : PySem.W.nsIn K mainGlobals "_law_rare" = some (some (.ref f7)))
    (l7 : K.lookup f7 = some ⟨oc7, od7, .func (PySem.W.fnOf "_law_rare" "_law_rare" (defArgs (top 22)) (defBody (top 22)) (defScope (top 22)) .none kV7 dc7 pm7 an7 cd7 ct7), sl7⟩)
    (c7 : PySem.W.codeIn K cd7 "_law_rare" = true)
    (k7 : PySem.W.keepIn K (.ref f7) = true)
    (a8 : PySem.W.nsIn K mainGlobals "word_end" = some (some (.ref f8)))
    (l8 : K.lookup f8 = some ⟨oc8, od8, .func (PySem.W.fnOf "word_end" "word_end" (defArgs (top 13)) (defBody (top 13)) (defScope (top 13)) .none kV8 dc8 pm8 an8 cd8 ct8), sl8⟩)
    (c8 : PySem.W.codeIn K cd8 "word_end" = true)
    (k8 : PySem.W.keepIn K (.ref f8) = true)
    (a9 : PySem.W.nsIn K mainGlobals "number_in" = some (some (.ref f9)))
    (l9 : K.lookup f9 = some ⟨oc9, od9, .func (PySem.W.fnOf "number_in" "number_in" (defArgs (top 14)) (defBody (top 14)) (defScope (top 14)) .none kV9 dc9 pm9 an9 cd9 ct9), sl9⟩)
    (c9 : PySem.W.codeIn K cd9 "number_in" = true)
    (k9 : PySem.W.keepIn K (.ref f9) = true)
    (a10 : PySem.W.nsIn K mainGlobals "is_plain" = some (some (.ref f10)))
    (l10 : K.lookup f10 = some ⟨oc10, od10, .func (PySem.W.fnOf "is_plain" "is_plain" (defArgs (top 9)) (defBody (top 9)) (defScope (top 9)) .none kV10 dc10 pm10 an10 cd10 ct10), sl10⟩)
    (c10 : PySem.W.codeIn K cd10 "is_plain" = true)
    (k10 : PySem.W.keepIn K (.ref f10) = true)
    (a11 : PySem.W.nsIn K mainGlobals "read_one" = some (some (.ref f11)))
    (l11 : K.lookup f11 = some ⟨oc11, od11, .func (PySem.W.fnOf "read_one" "read_one" (defArgs (top 15)) (defBody (top 15)) (defScope (top 15)) .none kV11 dc11 pm11 an11 cd11 ct11), sl11⟩)
    (c11 : PySem.W.codeIn K cd11 "read_one" = true)
    (k11 : PySem.W.keepIn K (.ref f11) = true)
    (a12 : PySem.W.nsIn K mainGlobals "read_parts" = some (some (.ref f12)))
    (l12 : K.lookup f12 = some ⟨oc12, od12, .func (PySem.W.fnOf "read_parts" "read_parts" (defArgs (top 16)) (defBody (top 16)) (defScope (top 16)) .none kV12 dc12 pm12 an12 cd12 ct12), sl12⟩)
    (c12 : PySem.W.codeIn K cd12 "read_parts" = true)
    (k12 : PySem.W.keepIn K (.ref f12) = true)
    (a13 : PySem.W.nsIn K mainGlobals "read_value" = some (some (.ref f13)))
    (l13 : K.lookup f13 = some ⟨oc13, od13, .func (PySem.W.fnOf "read_value" "read_value" (defArgs (top 17)) (defBody (top 17)) (defScope (top 17)) .none kV13 dc13 pm13 an13 cd13 ct13), sl13⟩)
    (c13 : PySem.W.codeIn K cd13 "read_value" = true)
    (k13 : PySem.W.keepIn K (.ref f13) = true)
    (a14 : PySem.W.nsIn K mainGlobals "_law_reads" = some (some (.ref f14)))
    (l14 : K.lookup f14 = some ⟨oc14, od14, .func (PySem.W.fnOf "_law_reads" "_law_reads" (defArgs (top 29)) (defBody (top 29)) (defScope (top 29)) .none kV14 dc14 pm14 an14 cd14 ct14), sl14⟩)
    (c14 : PySem.W.codeIn K cd14 "_law_reads" = true)
    (k14 : PySem.W.keepIn K (.ref f14) = true)
    (a15 : PySem.W.nsIn K mainGlobals "_law_written" = some (some (.ref f15)))
    (l15 : K.lookup f15 = some ⟨oc15, od15, .func (PySem.W.fnOf "_law_written" "_law_written" (defArgs (top 28)) (defBody (top 28)) (defScope (top 28)) .none kV15 dc15 pm15 an15 cd15 ct15), sl15⟩)
    (c15 : PySem.W.codeIn K cd15 "_law_written" = true)
    (k15 : PySem.W.keepIn K (.ref f15) = true)
    (a16 : PySem.W.nsIn K mainGlobals "_law_is_int" = some (some (.ref f16)))
    (l16 : K.lookup f16 = some ⟨oc16, od16, .func (PySem.W.fnOf "_law_is_int" "_law_is_int" (defArgs (top 24)) (defBody (top 24)) (defScope (top 24)) .none kV16 dc16 pm16 an16 cd16 ct16), sl16⟩)
    (c16 : PySem.W.codeIn K cd16 "_law_is_int" = true)
    (k16 : PySem.W.keepIn K (.ref f16) = true)
    (a17 : PySem.W.nsIn K mainGlobals "_law_is_plain" = some (some (.ref f17)))
    (l17 : K.lookup f17 = some ⟨oc17, od17, .func (PySem.W.fnOf "_law_is_plain" "_law_is_plain" (defArgs (top 25)) (defBody (top 25)) (defScope (top 25)) .none kV17 dc17 pm17 an17 cd17 ct17), sl17⟩)
    (c17 : PySem.W.codeIn K cd17 "_law_is_plain" = true)
    (k17 : PySem.W.keepIn K (.ref f17) = true)
    (a18 : PySem.W.nsIn K mainGlobals "_law_wrong" = some (some (.ref f18)))
    (l18 : K.lookup f18 = some ⟨oc18, od18, .func (PySem.W.fnOf "_law_wrong" "_law_wrong" (defArgs (top 30)) (defBody (top 30)) (defScope (top 30)) .none kV18 dc18 pm18 an18 cd18 ct18), sl18⟩)
    (c18 : PySem.W.codeIn K cd18 "_law_wrong" = true)
    (k18 : PySem.W.keepIn K (.ref f18) = true)
    (a19 : PySem.W.nsIn K mainGlobals "_law_nested" = some (some (.ref f19)))
    (l19 : K.lookup f19 = some ⟨oc19, od19, .func (PySem.W.fnOf "_law_nested" "_law_nested" (defArgs (top 31)) (defBody (top 31)) (defScope (top 31)) .none kV19 dc19 pm19 an19 cd19 ct19), sl19⟩)
    (c19 : PySem.W.codeIn K cd19 "_law_nested" = true)
    (k19 : PySem.W.keepIn K (.ref f19) = true)
    (a20 : PySem.W.nsIn K mainGlobals "law" = some (some (.ref f20)))
    (l20 : K.lookup f20 = some ⟨oc20, od20, .func (PySem.W.fnOf "law" "law" (defArgs (top 32)) (defBody (top 32)) (defScope (top 32)) .none kV20 dc20 pm20 an20 cd20 ct20), sl20⟩)
    (c20 : PySem.W.codeIn K cd20 "law" = true)
    (k20 : PySem.W.keepIn K (.ref f20) = true)
    (z_list : PySem.W.nsIn K mainGlobals "list" = some none)
    (z_int : PySem.W.nsIn K mainGlobals "int" = some none)
    (z_len : PySem.W.nsIn K mainGlobals "len" = some none)
    (z_tuple : PySem.W.nsIn K mainGlobals "tuple" = some none)
    (z_range : PySem.W.nsIn K mainGlobals "range" = some none)
    (z_isinstance : PySem.W.nsIn K mainGlobals "isinstance" = some none)
    (z_str : PySem.W.nsIn K mainGlobals "str" = some none)
    (z_bool : PySem.W.nsIn K mainGlobals "bool" = some none)
    (z_super : PySem.W.nsIn K mainGlobals "super" = some none)
    (z_dig : PySem.W.nsIn K cStatics "sys.int_max_str_digits" = some none)
    (g_DIGITS : PySem.W.nsIn K mainGlobals "DIGITS" = some (some (.str "0123456789" t_DIGITS)))
    (g_DIGITS_MOST : PySem.W.nsIn K mainGlobals "DIGITS_MOST" = some (some (.int 2500 t_DIGITS_MOST)))
    (g_STRING_MOST : PySem.W.nsIn K mainGlobals "STRING_MOST" = some (some (.int 6400 t_STRING_MOST)))
    (g_DEPTH_MOST : PySem.W.nsIn K mainGlobals "DEPTH_MOST" = some (some (.int 60 t_DEPTH_MOST)))
    (g_DOSSIER_MOST : PySem.W.nsIn K mainGlobals "DOSSIER_MOST" = some (some (.int 400000 t_DOSSIER_MOST)))
    (aCx0 : PySem.W.nsIn K mainGlobals "BadText" = some (some (.ref Cx0)))
    (xLx0 : K.lookup Cx0 = some (excClassObj nmx0 qnx0 Cx0 Nx0 bsx0 [.ref Wx0, .type "ValueError", .type "Exception", .type "BaseException", .type "object"] true snx0 sbx0 abx0 colx0 ddx0 m0x0 m1x0 m2x0 m3x0 m5x0 "ValueError.__new__"))
    (sax0 : PySem.W.findIn K (.ref Cx0) "__setattr__" = some (some (.builtin "object.__setattr__")))
    (gax0 : PySem.W.findIn K (.ref Cx0) "__getattribute__" = some (some (.builtin "BaseException.__getattribute__")))
    (ggx0 : PySem.W.findIn K (.ref Cx0) "__getattr__" = some none)
    (nbx0 : PySem.W.findIn K (.ref Cx0) "line" = some none)
    (aix0 : PySem.W.findIn K (.ref Cx0) "__init__" = some (some (.ref Ix0)))
    (tix0 : PySem.W.typeIn K (.ref Ix0) = some (.type "function"))
    (lix0 : K.lookup Ix0 = some ⟨ocx0, odx0, .func (PySem.W.ksFn "__init__" "BadText.__init__" (PySem.OwnX.iA "line" ⟨6, 17, 6, 21⟩ ⟨6, 23, 6, 27⟩) (PySem.OwnX.iB "line" "faulty line" 0 ⟨7, 8, 7, 13⟩ ⟨7, 8, 7, 15⟩ ⟨7, 8, 7, 24⟩ ⟨7, 25, 7, 38⟩ ⟨7, 8, 7, 39⟩ ⟨7, 8, 7, 39⟩ ⟨8, 8, 8, 12⟩ ⟨8, 8, 8, 17⟩ ⟨8, 20, 8, 24⟩ ⟨8, 8, 8, 24⟩) (PySem.OwnX.iS "line") .none .none dcx0 pmx0 anx0 (.ref cdax0) ctx0 ccx0), oslx0⟩)
    (cix0 : PySem.W.codeIn K (.ref cdax0) "BadText.__init__" = true)
    (kCx0 : PySem.W.keepIn K (.ref Cx0) = true)
    (eCx0 : PySem.W.subIn K (.ref Cx0) (.type "BaseException") = some true)
    (tCx0 : PySem.W.typeIn K (.ref Cx0) = some (.type "type"))
    (hCx0 : PySem.W.hasDictIn K Cx0 = true)
    (iCx0 : PySem.W.isClsIn K Cx0 = true)
    (sCx0 : PySem.W.subIn K (.ref Cx0) (.ref Cx0) = some true)
    (mCx0 : PySem.W.mroIn K Cx0 (.ref Cx0) = some true)
    (sVx0 : PySem.W.subIn K (.ref Cx0) (.type "ValueError") = some true)
    (hmx0 : PySem.W.ks_superIn K Cx0 Cx0 "__init__" = some (some (.builtin "ValueError.__init__")))
    (lcx0 : K.lookup ccx0 = some ⟨clx0, cldx0, .cell (some (.ref Cx0)), cslx0⟩)
    (ldx0 : K.lookup cdax0 = some ⟨cclx0, cddx0, .fields vsx0, ccsx0⟩)
    (vdx0 : vsx0[2]? = some (.str filex0 tfx0))
    (fdx0 : ((PySem.Challenge.pw_wishweather_k83_values.main.file : Str) == filex0) = true)
    (aCx1 : PySem.W.nsIn K mainGlobals "TooLarge" = some (some (.ref Cx1)))
    (xLx1 : K.lookup Cx1 = some (excClassObj nmx1 qnx1 Cx1 Nx1 bsx1 [.ref Wx1, .type "ValueError", .type "Exception", .type "BaseException", .type "object"] true snx1 sbx1 abx1 colx1 ddx1 m0x1 m1x1 m2x1 m3x1 m5x1 "ValueError.__new__"))
    (sax1 : PySem.W.findIn K (.ref Cx1) "__setattr__" = some (some (.builtin "object.__setattr__")))
    (gax1 : PySem.W.findIn K (.ref Cx1) "__getattribute__" = some (some (.builtin "BaseException.__getattribute__")))
    (ggx1 : PySem.W.findIn K (.ref Cx1) "__getattr__" = some none)
    (nbx1 : PySem.W.findIn K (.ref Cx1) "most" = some none)
    (aix1 : PySem.W.findIn K (.ref Cx1) "__init__" = some (some (.ref Ix1)))
    (tix1 : PySem.W.typeIn K (.ref Ix1) = some (.type "function"))
    (lix1 : K.lookup Ix1 = some ⟨ocx1, odx1, .func (PySem.W.ksFn "__init__" "TooLarge.__init__" (PySem.OwnX.iA "most" ⟨11, 17, 11, 21⟩ ⟨11, 23, 11, 27⟩) (PySem.OwnX.iB "most" "too large" 0 ⟨12, 8, 12, 13⟩ ⟨12, 8, 12, 15⟩ ⟨12, 8, 12, 24⟩ ⟨12, 25, 12, 36⟩ ⟨12, 8, 12, 37⟩ ⟨12, 8, 12, 37⟩ ⟨13, 8, 13, 12⟩ ⟨13, 8, 13, 17⟩ ⟨13, 20, 13, 24⟩ ⟨13, 8, 13, 24⟩) (PySem.OwnX.iS "most") .none .none dcx1 pmx1 anx1 (.ref cdax1) ctx1 ccx1), oslx1⟩)
    (cix1 : PySem.W.codeIn K (.ref cdax1) "TooLarge.__init__" = true)
    (kCx1 : PySem.W.keepIn K (.ref Cx1) = true)
    (eCx1 : PySem.W.subIn K (.ref Cx1) (.type "BaseException") = some true)
    (tCx1 : PySem.W.typeIn K (.ref Cx1) = some (.type "type"))
    (hCx1 : PySem.W.hasDictIn K Cx1 = true)
    (iCx1 : PySem.W.isClsIn K Cx1 = true)
    (sCx1 : PySem.W.subIn K (.ref Cx1) (.ref Cx1) = some true)
    (mCx1 : PySem.W.mroIn K Cx1 (.ref Cx1) = some true)
    (sVx1 : PySem.W.subIn K (.ref Cx1) (.type "ValueError") = some true)
    (hmx1 : PySem.W.ks_superIn K Cx1 Cx1 "__init__" = some (some (.builtin "ValueError.__init__")))
    (lcx1 : K.lookup ccx1 = some ⟨clx1, cldx1, .cell (some (.ref Cx1)), cslx1⟩)
    (ldx1 : K.lookup cdax1 = some ⟨cclx1, cddx1, .fields vsx1, ccsx1⟩)
    (vdx1 : vsx1[2]? = some (.str filex1 tfx1))
    (fdx1 : ((PySem.Challenge.pw_wishweather_k83_values.main.file : Str) == filex1) = true)
    (opq : PySem.W.nsIn K cStatics "thirdparty.any" = some none)
    : ∃ fd : FuncData, (∀ (s : Shared) (v : Value), BindsTo s fd ⟨[v], []⟩ [("script", v)]) ∧ ∀ base : Heap, K.In base → base.Ns mainGlobals mg → FnOk PySem.Challenge.pw_wishweather_k83_values w K mg base (L2.CX PySem.Challenge.pw_wishweather_k83_values w) 74 fa fd ["script"] (spL K) := by
  have e := hfa.symm.trans (PySem.W.mg_of X G a20)
  cases e
  have z_list := PySem.W.mg_none_of X G z_list
  have z_int := PySem.W.mg_none_of X G z_int
  have z_len := PySem.W.mg_none_of X G z_len
  have z_tuple := PySem.W.mg_none_of X G z_tuple
  have z_range := PySem.W.mg_none_of X G z_range
  have z_isinstance := PySem.W.mg_none_of X G z_isinstance
  have z_str := PySem.W.mg_none_of X G z_str
  have z_bool := PySem.W.mg_none_of X G z_bool
  have z_super := PySem.W.mg_none_of X G z_super
  have Tx0 : PySem.OwnX.Txt K PySem.Challenge.pw_wishweather_k83_values mg "BadText" "BadText.__init__" "line" "faulty line" Cx0 Ix0 ccx0 cdax0 :=
    { gC := PySem.W.mg_of X G aCx0, sup := z_super, cls := ⟨_, _, _, _, _, _, _, _, _, _, _, _, _, _, _, xLx0, rfl⟩, sa := sax0, ga := gax0, gg := ggx0, noN := nbx0, iC := aix0, tC := tix0, kC := kCx0, exC := eCx0, tyC := tCx0, hdC := hCx0, te := exm_self eCx0 iCx0 tCx0 sCx0,
      sub := mCx0, subV := sVx0, opq := opq, hm := hmx0, htop := by decide +kernel, cell := ⟨_, _, _, lcx0⟩, code := ⟨_, _, _, _, _, _, ldx0, vdx0, fdx0⟩, fn := ⟨_, _, _, _, _, _, _, _, _, _, _, _, _, _, _, _, _, _, _, _, by decide +kernel, lix0, cix0⟩,
      bnd := fun _ _ _ _ _ _ _ _ _ _ _ _ _ _ _ _ _ _ _ => rfl, f1 := by decide +kernel, f2 := by decide +kernel, f3 := by decide +kernel, f4 := by decide +kernel, f5 := by decide +kernel, f6 := by decide +kernel, f7 := by decide +kernel }
  have Tx1 : PySem.OwnX.Txt K PySem.Challenge.pw_wishweather_k83_values mg "TooLarge" "TooLarge.__init__" "most" "too large" Cx1 Ix1 ccx1 cdax1 :=
    { gC := PySem.W.mg_of X G aCx1, sup := z_super, cls := ⟨_, _, _, _, _, _, _, _, _, _, _, _, _, _, _, xLx1, rfl⟩, sa := sax1, ga := gax1, gg := ggx1, noN := nbx1, iC := aix1, tC := tix1, kC := kCx1, exC := eCx1, tyC := tCx1, hdC := hCx1, te := exm_self eCx1 iCx1 tCx1 sCx1,
      sub := mCx1, subV := sVx1, opq := opq, hm := hmx1, htop := by decide +kernel, cell := ⟨_, _, _, lcx1⟩, code := ⟨_, _, _, _, _, _, ldx1, vdx1, fdx1⟩, fn := ⟨_, _, _, _, _, _, _, _, _, _, _, _, _, _, _, _, _, _, _, _, by decide +kernel, lix1, cix1⟩,
      bnd := fun _ _ _ _ _ _ _ _ _ _ _ _ _ _ _ _ _ _ _ => rfl, f1 := by decide +kernel, f2 := by decide +kernel, f3 := by decide +kernel, f4 := by decide +kernel, f5 := by decide +kernel, f6 := by decide +kernel, f7 := by decide +kernel }
  have F0 := fun_mk (st := top 19) l0 c0 k0
  have b0 := F0.binds (ps := ["script"]) fun _ _ _ _ _ _ us hl => match us, hl with | [_], _ => rfl
  have F1 := fun_mk (st := top 20) l1 c1 k1
  have b1 := F1.binds (ps := ["d", "many"]) fun _ _ _ _ _ _ us hl => match us, hl with | [_, _], _ => rfl
  have F2 := fun_mk (st := top 21) l2 c2 k2
  have b2 := F2.binds (ps := ["d", "row"]) fun _ _ _ _ _ _ us hl => match us, hl with | [_, _], _ => rfl
  have F3 := fun_mk (st := top 23) l3 c3 k3
  have b3 := F3.binds (ps := []) fun _ _ _ _ _ _ us hl => match us, hl with | [], _ => rfl
  have F4 := fun_mk (st := top 26) l4 c4 k4
  have b4 := F4.binds (ps := ["d"]) fun _ _ _ _ _ _ us hl => match us, hl with | [_], _ => rfl
  have F5 := fun_mk (st := top 27) l5 c5 k5
  have b5 := F5.binds (ps := ["d", "many", "depth"]) fun _ _ _ _ _ _ us hl => match us, hl with | [_, _, _], _ => rfl
  have F6 := fun_mk (st := top 12) l6 c6 k6
  have b6 := F6.binds (ps := ["value"]) fun _ _ _ _ _ _ us hl => match us, hl with | [_], _ => rfl
  have F7 := fun_mk (st := top 22) l7 c7 k7
  have b7 := F7.binds (ps := ["d", "many"]) fun _ _ _ _ _ _ us hl => match us, hl with | [_, _], _ => rfl
  have F8 := fun_mk (st := top 13) l8 c8 k8
  have b8 := F8.binds (ps := ["text", "place"]) fun _ _ _ _ _ _ us hl => match us, hl with | [_, _], _ => rfl
  have F9 := fun_mk (st := top 14) l9 c9 k9
  have b9 := F9.binds (ps := ["word"]) fun _ _ _ _ _ _ us hl => match us, hl with | [_], _ => rfl
  have F10 := fun_mk (st := top 9) l10 c10 k10
  have b10 := F10.binds (ps := ["row"]) fun _ _ _ _ _ _ us hl => match us, hl with | [_], _ => rfl
  have F11 := fun_mk (st := top 15) l11 c11 k11
  have b11 := F11.binds (ps := ["text", "place"]) fun _ _ _ _ _ _ us hl => match us, hl with | [_, _], _ => rfl
  have F12 := fun_mk (st := top 16) l12 c12 k12
  have b12 := F12.binds (ps := ["text"]) fun _ _ _ _ _ _ us hl => match us, hl with | [_], _ => rfl
  have F13 := fun_mk (st := top 17) l13 c13 k13
  have b13 := F13.binds (ps := ["text"]) fun _ _ _ _ _ _ us hl => match us, hl with | [_], _ => rfl
  have F14 := fun_mk (st := top 29) l14 c14 k14
  have b14 := F14.binds (ps := ["text"]) fun _ _ _ _ _ _ us hl => match us, hl with | [_], _ => rfl
  have F15 := fun_mk (st := top 28) l15 c15 k15
  have b15 := F15.binds (ps := ["value"]) fun _ _ _ _ _ _ us hl => match us, hl with | [_], _ => rfl
  have F16 := fun_mk (st := top 24) l16 c16 k16
  have b16 := F16.binds (ps := ["thing"]) fun _ _ _ _ _ _ us hl => match us, hl with | [_], _ => rfl
  have F17 := fun_mk (st := top 25) l17 c17 k17
  have b17 := F17.binds (ps := ["thing"]) fun _ _ _ _ _ _ us hl => match us, hl with | [_], _ => rfl
  have F18 := fun_mk (st := top 30) l18 c18 k18
  have b18 := F18.binds (ps := ["d", "text"]) fun _ _ _ _ _ _ us hl => match us, hl with | [_, _], _ => rfl
  have F19 := fun_mk (st := top 31) l19 c19 k19
  have b19 := F19.binds (ps := ["depth"]) fun _ _ _ _ _ _ us hl => match us, hl with | [_], _ => rfl
  have F20 := fun_mk (st := top 32) l20 c20 k20
  have b20 := F20.binds (ps := ["script"]) fun _ _ _ _ _ _ us hl => match us, hl with | [_], _ => rfl
  refine ⟨PySem.W.fnOf "law" "law" (defArgs (top 32)) (defBody (top 32)) (defScope (top 32)) .none kV20 dc20 pm20 an20 cd20 ct20, fun s v => .of_eq rfl, fun base _ _ => ?_⟩
  let xi : XI := ⟨fun c => match c with | 0 => Cx0 | 1 => Cx1 | _ => 0, fun c => match c with | 0 => "line" | 1 => "most" | _ => "_"⟩
  have Xx0 : XOk ⟨PySem.Challenge.pw_wishweather_k83_values, w, K, mg, base, xi⟩ 0 "BadText" := ⟨_, _, _, _, _, _, Tx0, rfl⟩
  have Yx0 : xi.xf 0 = "line" := rfl
  have Xx1 : XOk ⟨PySem.Challenge.pw_wishweather_k83_values, w, K, mg, base, xi⟩ 1 "TooLarge" := ⟨_, _, _, _, _, _, Tx1, rfl⟩
  have Yx1 : xi.xf 1 = "most" := rfl
  have G_DIGITS : ∃ v u, mg "DIGITS" = some u ∧ RelV v u ∧ ∀ H, Rep K H (.str "0123456789") v [] := ⟨.str "0123456789", _, PySem.W.mg_of X G g_DIGITS, ⟨_, rfl⟩, fun _ => ⟨rfl, rfl⟩⟩
  have G_DIGITS_MOST : ∃ v u, mg "DIGITS_MOST" = some u ∧ RelV v u ∧ ∀ H, Rep K H (.int 2500) v [] := ⟨.int 2500, _, PySem.W.mg_of X G g_DIGITS_MOST, ⟨_, rfl⟩, fun _ => ⟨rfl, rfl⟩⟩
  have G_STRING_MOST : ∃ v u, mg "STRING_MOST" = some u ∧ RelV v u ∧ ∀ H, Rep K H (.int 6400) v [] := ⟨.int 6400, _, PySem.W.mg_of X G g_STRING_MOST, ⟨_, rfl⟩, fun _ => ⟨rfl, rfl⟩⟩
  have G_DEPTH_MOST : ∃ v u, mg "DEPTH_MOST" = some u ∧ RelV v u ∧ ∀ H, Rep K H (.int 60) v [] := ⟨.int 60, _, PySem.W.mg_of X G g_DEPTH_MOST, ⟨_, rfl⟩, fun _ => ⟨rfl, rfl⟩⟩
  have G_DOSSIER_MOST : ∃ v u, mg "DOSSIER_MOST" = some u ∧ RelV v u ∧ ∀ H, Rep K H (.int 400000) v [] := ⟨.int 400000, _, PySem.W.mg_of X G g_DOSSIER_MOST, ⟨_, rfl⟩, fun _ => ⟨rfl, rfl⟩⟩
  have ND : NoDig K := z_dig
  have H0 : Has ⟨PySem.Challenge.pw_wishweather_k83_values, w, K, mg, base, xi⟩ 1 F_law_begin := by
    exact has_of E_law_begin D_law_begin rfl rfl F0 b0 (PySem.W.mg_of X G a0) (P_law_begin z_list)
  have H1 : Has ⟨PySem.Challenge.pw_wishweather_k83_values, w, K, mg, base, xi⟩ 1 F_law_draw := by
    exact has_of E_law_draw D_law_draw rfl rfl F1 b1 (PySem.W.mg_of X G a1) (P_law_draw z_int z_len ND)
  have H2 : Has ⟨PySem.Challenge.pw_wishweather_k83_values, w, K, mg, base, xi⟩ 2 F_law_pick := by
    exact has_of E_law_pick D_law_pick rfl rfl F2 b2 (PySem.W.mg_of X G a2) (P_law_pick z_len (H1.mono (by decide)))
  have H3 : Has ⟨PySem.Challenge.pw_wishweather_k83_values, w, K, mg, base, xi⟩ 1 F_law_pool := by
    exact has_of E_law_pool D_law_pool rfl rfl F3 b3 (PySem.W.mg_of X G a3) (P_law_pool )
  have H4 : Has ⟨PySem.Challenge.pw_wishweather_k83_values, w, K, mg, base, xi⟩ 3 F_law_leaf := by
    exact has_of E_law_leaf D_law_leaf rfl rfl F4 b4 (PySem.W.mg_of X G a4) (P_law_leaf (H1.mono (by decide)) (H2.mono (by decide)) (H3.mono (by decide)))
  have R5 : ∀ n : Nat, Has ⟨PySem.Challenge.pw_wishweather_k83_values, w, K, mg, base, xi⟩ (n + 3) (F_law_value_at n) := fun n => by
    induction n with
    | zero => rw [E0_law_value]; exact has_none F5 b5 (PySem.W.mg_of X G a5)
    | succ n ih =>
      exact Has.mono (has_of (E_law_value n) (D_law_value n) rfl rfl F5 b5 (PySem.W.mg_of X G a5) (P_law_value z_tuple z_range (H1.mono (by omega)) (H4.mono (by omega)) ih)) (by omega)
  have H5 : Has ⟨PySem.Challenge.pw_wishweather_k83_values, w, K, mg, base, xi⟩ 73 F_law_value := R5 DEPTH
  have H6 : Has ⟨PySem.Challenge.pw_wishweather_k83_values, w, K, mg, base, xi⟩ 1 F_write_value := by
    exact has_of E_write_value D_write_value rfl rfl F6 b6 (PySem.W.mg_of X G a6) (P_write_value z_isinstance z_str z_int z_range z_len ND)
  have H7 : Has ⟨PySem.Challenge.pw_wishweather_k83_values, w, K, mg, base, xi⟩ 2 F_law_rare := by
    exact has_of E_law_rare D_law_rare rfl rfl F7 b7 (PySem.W.mg_of X G a7) (P_law_rare (H1.mono (by decide)))
  have H8 : Has ⟨PySem.Challenge.pw_wishweather_k83_values, w, K, mg, base, xi⟩ 1 F_word_end := by
    exact has_of E_word_end D_word_end rfl rfl F8 b8 (PySem.W.mg_of X G a8) (P_word_end z_len G_DIGITS)
  have H9 : Has ⟨PySem.Challenge.pw_wishweather_k83_values, w, K, mg, base, xi⟩ 1 F_number_in := by
    exact has_of E_number_in D_number_in rfl rfl F9 b9 (PySem.W.mg_of X G a9) (P_number_in z_int z_len G_DIGITS_MOST ND)
  have H10 : Has ⟨PySem.Challenge.pw_wishweather_k83_values, w, K, mg, base, xi⟩ 1 F_is_plain := by
    exact has_of E_is_plain D_is_plain rfl rfl F10 b10 (PySem.W.mg_of X G a10) (P_is_plain )
  have H11 : Has ⟨PySem.Challenge.pw_wishweather_k83_values, w, K, mg, base, xi⟩ 2 F_read_one := by
    exact has_of E_read_one D_read_one rfl rfl F11 b11 (PySem.W.mg_of X G a11) (P_read_one G_STRING_MOST (H8.mono (by decide)) (H9.mono (by decide)) (H10.mono (by decide)))
  have H12 : Has ⟨PySem.Challenge.pw_wishweather_k83_values, w, K, mg, base, xi⟩ 3 F_read_parts := by
    exact has_of E_read_parts D_read_parts rfl rfl F12 b12 (PySem.W.mg_of X G a12) (P_read_parts z_len z_tuple G_DEPTH_MOST (H11.mono (by decide)))
  have H13 : Has ⟨PySem.Challenge.pw_wishweather_k83_values, w, K, mg, base, xi⟩ 4 F_read_value := by
    exact has_of E_read_value D_read_value rfl rfl F13 b13 (PySem.W.mg_of X G a13) (P_read_value z_len G_DOSSIER_MOST Xx1 Yx1 Xx0 Yx0 (H12.mono (by decide)) (H6.mono (by decide)))
  have H14 : Has ⟨PySem.Challenge.pw_wishweather_k83_values, w, K, mg, base, xi⟩ 5 F_law_reads := by
    exact has_of E_law_reads D_law_reads rfl rfl F14 b14 (PySem.W.mg_of X G a14) (P_law_reads Xx0 Yx0 (H13.mono (by decide)))
  have R15 : ∀ n : Nat, Has ⟨PySem.Challenge.pw_wishweather_k83_values, w, K, mg, base, xi⟩ (n + 0) (F_law_written_at n) := fun n => by
    induction n with
    | zero => rw [E0_law_written]; exact has_none F15 b15 (PySem.W.mg_of X G a15)
    | succ n ih =>
      exact Has.mono (has_of (E_law_written n) (D_law_written n) rfl rfl F15 b15 (PySem.W.mg_of X G a15) (P_law_written z_isinstance z_str z_tuple ND ih)) (by omega)
  have H15 : Has ⟨PySem.Challenge.pw_wishweather_k83_values, w, K, mg, base, xi⟩ 70 F_law_written := R15 DEPTH
  have H16 : Has ⟨PySem.Challenge.pw_wishweather_k83_values, w, K, mg, base, xi⟩ 1 F_law_is_int := by
    exact has_of E_law_is_int D_law_is_int rfl rfl F16 b16 (PySem.W.mg_of X G a16) (P_law_is_int z_isinstance z_int z_bool)
  have H17 : Has ⟨PySem.Challenge.pw_wishweather_k83_values, w, K, mg, base, xi⟩ 2 F_law_is_plain := by
    exact has_of E_law_is_plain D_law_is_plain rfl rfl F17 b17 (PySem.W.mg_of X G a17) (P_law_is_plain z_range z_isinstance z_tuple z_len z_list z_str (H16.mono (by decide)))
  have H18 : Has ⟨PySem.Challenge.pw_wishweather_k83_values, w, K, mg, base, xi⟩ 3 F_law_wrong := by
    exact has_of E_law_wrong D_law_wrong rfl rfl F18 b18 (PySem.W.mg_of X G a18) (P_law_wrong (H1.mono (by decide)) (H2.mono (by decide)))
  have H19 : Has ⟨PySem.Challenge.pw_wishweather_k83_values, w, K, mg, base, xi⟩ 1 F_law_nested := by
    exact has_of E_law_nested D_law_nested rfl rfl F19 b19 (PySem.W.mg_of X G a19) (P_law_nested z_range)
  exact FnOk.imp (ok_def (N := N_law) (ps := ["script"]) (b := b_law) (st := top 32) F20 D_law (xi := xi) (P_law Xx1 Yx1 (H0.mono (by decide)) (H5.mono (by decide)) (H6.mono (by decide)) (H7.mono (by decide)) (H14.mono (by decide)) (H15.mono (by decide)) (H13.mono (by decide)) (H17.mono (by decide)) (H18.mono (by decide)) (H19.mono (by decide)))) fun vs H Q E h => spL_end law_true h
theorem walk {q : Program} {loose : List Str} {XP : (Str → Option Value) → Heap → Prop} {YP : World → Heap → Prop} {d : DefRec} {K : Params → PySem.W.Frag} (hdf : d.params.defaults = [])
    (hY : ∀ (w : World) (h : Heap), YP w h → (K w.params).In h)
    (F : ∀ (w : World) (mg : Str → Option Value) (fa : Addr) (h : Heap), (K w.params).In h → h.Ns mainGlobals mg → mg d.name = some (.ref fa) →
      ∃ fd : FuncData, (∀ (s : Shared) (u : Value), BindsTo s fd ⟨[u], []⟩ [("script", u)]) ∧ ∀ base : Heap, (K w.params).In base → base.Ns mainGlobals mg → FnOk PySem.Challenge.pw_wishweather_k83_values w (K w.params) mg base (L2.CX PySem.Challenge.pw_wishweather_k83_values w) 74 fa fd ["script"] (spL (K w.params))) :
    PySem.W.WalkO q loose XP YP PySem.Challenge.rw_wishweather_k83_values.row.toRowW d [] (fun f vs => PySem.call f vs) :=
  L2.walk_of (l := PySem.Challenge.rw_wishweather_k83_values) (n := 63) (k := 74) (x := "script") (CX := fun w => L2.CX PySem.Challenge.pw_wishweather_k83_values w) (sp := fun w => spL (K w.params)) rfl (by decide) hdf ⟨rfl, by decide, by decide⟩ hY F (fun _ H a ns hl ho hS => ⟨a, ns, rfl, hl, ho, hS, fun _ => rfl⟩) fun _ H s e s' z => cx_end H s e s' z
end K83
open PySem PySem.W PyProof.Rows
set_option maxRecDepth 100000 in
set_option maxHeartbeats 0 in
theorem PySem.Challenge.cw_wishweather_k83_values_holds : PySem.Challenge.rw_wishweather_k83_values.Holds := by
  w_on; o_law; k_head; (case hw => w_witness2)
  k_fill
  refine K83.walk rfl (fun w h Y => PySem.W.kIn_of Y) ?F
  case F =>
    intro w mg fa h KX G hmg
    refine' K83.all_mk KX G hmg ?a0 ?l0 ?c0 ?k0 ?a1 ?l1 ?c1 ?k1 ?a2 ?l2 ?c2 ?k2 ?a3 ?l3 ?c3 ?k3 ?a4 ?l4 ?c4 ?k4 ?a5 ?l5 ?c5 ?k5 ?a6 ?l6 ?c6 ?k6 ?a7 ?l7 ?c7 ?k7 ?a8 ?l8 ?c8 ?k8 ?a9 ?l9 ?c9 ?k9 ?a10 ?l10 ?c10 ?k10 ?a11 ?l11 ?c11 ?k11 ?a12 ?l12 ?c12 ?k12 ?a13 ?l13 ?c13 ?k13 ?a14 ?l14 ?c14 ?k14 ?a15 ?l15 ?c15 ?k15 ?a16 ?l16 ?c16 ?k16 ?a17 ?l17 ?c17 ?k17 ?a18 ?l18 ?c18 ?k18 ?a19 ?l19 ?c19 ?k19 ?a20 ?l20 ?c20 ?k20 ?z_list ?z_int ?z_len ?z_tuple ?z_range ?z_isinstance ?z_str ?z_bool ?z_super ?z_dig ?g_DIGITS ?g_DIGITS_MOST ?g_STRING_MOST ?g_DEPTH_MOST ?g_DOSSIER_MOST ?aCx0 ?xLx0 ?sax0 ?gax0 ?ggx0 ?nbx0 ?aix0 ?tix0 ?lix0 ?cix0 ?kCx0 ?eCx0 ?tCx0 ?hCx0 ?iCx0 ?sCx0 ?mCx0 ?sVx0 ?hmx0 ?lcx0 ?ldx0 ?vdx0 ?fdx0 ?aCx1 ?xLx1 ?sax1 ?gax1 ?ggx1 ?nbx1 ?aix1 ?tix1 ?lix1 ?cix1 ?kCx1 ?eCx1 ?tCx1 ?hCx1 ?iCx1 ?sCx1 ?mCx1 ?sVx1 ?hmx1 ?lcx1 ?ldx1 ?vdx1 ?fdx1 ?opq
    (case a0 => k_is)
    (case l0 => k_is)
    (case c0 => k_is)
    (case k0 => k_is)
    (case a1 => k_is)
    (case l1 => k_is)
    (case c1 => k_is)
    (case k1 => k_is)
    (case a2 => k_is)
    (case l2 => k_is)
    (case c2 => k_is)
    (case k2 => k_is)
    (case a3 => k_is)
    (case l3 => k_is)
    (case c3 => k_is)
    (case k3 => k_is)
    (case a4 => k_is)
    (case l4 => k_is)
    (case c4 => k_is)
    (case k4 => k_is)
    (case a5 => k_is)
    (case l5 => k_is)
    (case c5 => k_is)
    (case k5 => k_is)
    (case a6 => k_is)
    (case l6 => k_is)
    (case c6 => k_is)
    (case k6 => k_is)
    (case a7 => k_is)
    (case l7 => k_is)
    (case c7 => k_is)
    (case k7 => k_is)
    (case a8 => k_is)
    (case l8 => k_is)
    (case c8 => k_is)
    (case k8 => k_is)
    (case a9 => k_is)
    (case l9 => k_is)
    (case c9 => k_is)
    (case k9 => k_is)
    (case a10 => k_is)
    (case l10 => k_is)
    (case c10 => k_is)
    (case k10 => k_is)
    (case a11 => k_is)
    (case l11 => k_is)
    (case c11 => k_is)
    (case k11 => k_is)
    (case a12 => k_is)
    (case l12 => k_is)
    (case c12 => k_is)
    (case k12 => k_is)
    (case a13 => k_is)
    (case l13 => k_is)
    (case c13 => k_is)
    (case k13 => k_is)
    (case a14 => k_is)
    (case l14 => k_is)
    (case c14 => k_is)
    (case k14 => k_is)
    (case a15 => k_is)
    (case l15 => k_is)
    (case c15 => k_is)
    (case k15 => k_is)
    (case a16 => k_is)
    (case l16 => k_is)
    (case c16 => k_is)
    (case k16 => k_is)
    (case a17 => k_is)
    (case l17 => k_is)
    (case c17 => k_is)
    (case k17 => k_is)
    (case a18 => k_is)
    (case l18 => k_is)
    (case c18 => k_is)
    (case k18 => k_is)
    (case a19 => k_is)
    (case l19 => k_is)
    (case c19 => k_is)
    (case k19 => k_is)
    (case a20 => k_is)
    (case l20 => k_is)
    (case c20 => k_is)
    (case k20 => k_is)
    (case z_list => k_is)
    (case z_int => k_is)
    (case z_len => k_is)
    (case z_tuple => k_is)
    (case z_range => k_is)
    (case z_isinstance => k_is)
    (case z_str => k_is)
    (case z_bool => k_is)
    (case z_super => k_is)
    (case z_dig => k_is)
    (case g_DIGITS => k_is)
    (case g_DIGITS_MOST => k_is)
    (case g_STRING_MOST => k_is)
    (case g_DEPTH_MOST => k_is)
    (case g_DOSSIER_MOST => k_is)
    (case aCx0 => k_is)
    (case xLx0 => k_is)
    (case sax0 => k_is)
    (case gax0 => k_is)
    (case ggx0 => k_is)
    (case nbx0 => k_is)
    (case aix0 => k_is)
    (case tix0 => k_is)
    (case lix0 => k_is)
    (case cix0 => k_is)
    (case kCx0 => k_is)
    (case eCx0 => k_is)
    (case tCx0 => k_is)
    (case hCx0 => k_is)
    (case iCx0 => k_is)
    (case sCx0 => first | rfl | k_is)
    (case mCx0 => first | rfl | k_is)
    (case sVx0 => k_is)
    (case hmx0 => first | ks_is | k_is)
    (case lcx0 => k_is)
    (case ldx0 => k_is)
    (case vdx0 => rfl)
    (case fdx0 => first | rfl | decide +kernel)
    (case aCx1 => k_is)
    (case xLx1 => k_is)
    (case sax1 => k_is)
    (case gax1 => k_is)
    (case ggx1 => k_is)
    (case nbx1 => k_is)
    (case aix1 => k_is)
    (case tix1 => k_is)
    (case lix1 => k_is)
    (case cix1 => k_is)
    (case kCx1 => k_is)
    (case eCx1 => k_is)
    (case tCx1 => k_is)
    (case hCx1 => k_is)
    (case iCx1 => k_is)
    (case sCx1 => first | rfl | k_is)
    (case mCx1 => first | rfl | k_is)
    (case sVx1 => k_is)
    (case hmx1 => first | ks_is | k_is)
    (case lcx1 => k_is)
    (case ldx1 => k_is)
    (case vdx1 => rfl)
    (case fdx1 => first | rfl | decide +kernel)
    (case opq => k_is)
