import PyProof.Rows.All
import Wide.All
import OpenK.AllK
import Wide.FinOn
import HandS.ForExc
import HandS.Comp
import HandS.CallSlots
import HandS.Text
import HandS.TupAny
import HandS.Deep
import HandS.Wide
import HandS.IsInst
import PyProof.Rows.StrMul
import HandS.TupLe
import HandS.Dict
import HandS.StrMore
import HandS.Iter
import HandS.WordsExc
import KE.KExcSuper
import HandS.ExcField
import HandS.ExcIs
import KE.KIntText
import KE.IntText
import PyProof.Rows.StrOr
import KE.GoesMore
import HandS.ForDict
import PyProof.ReprRoads
import HandS.More
import KE.KExcIs
import PyProof.StrLawsRepr
import HandS.Ends
import PySem.Challenge.RW_wishweather_k81_edits
set_option Elab.async false
set_option linter.all false
set_option maxRecDepth 100000
set_option maxHeartbeats 2000000
/-! Pv part A: trees, what they stand for in the abstract heap, places in trees. -/
namespace Pv
open PySem L2

/-- a Python value as a tree -/
inductive T where
  | non | bl (b : Bool) | int (i : Int) | str (s : Str)
  | tup (ts : List T) | lst (ts : List T)
  | fro (ns : List Int)
  /-- a thing that nobody looks into -/
  | box
  /-- a dict, its keys (tuples, if kd) and its values -/
  | dct (kd : Bool) (ks vs : List T)
  /-- an instance of an own class, made and never changed again; one that is being made -/
  | obj (cn : Str) (ns : List Str) (fs : List T) | mob (cn : Str) (ns : List Str) (fs : List T)

mutual
/-- no list that may change is in it -/
def T.imm : T → Bool
  | .lst _ => false
  | .tup ts => T.imms ts
  | .dct _ _ _ => false
  | .obj _ _ fs => T.imms fs
  | .mob _ _ _ => false
  | _ => true
def T.imms : List T → Bool
  | [] => true
  | t :: ts => t.imm && T.imms ts
end

/-- the last fields that the __init__s of own classes store: an instance that has one is made -/
def LASTS : List Str := ["near_hosts", "policy", "spare", "tables"]
def done (ns : List Str) : Bool := ns.any fun f => LASTS.contains f
/-- the class of the name -/
def ClsAt (K : PySem.W.Frag) (cn : Str) (C : Addr) : Prop := PySem.W.nsIn K mainGlobals cn = some (some (.ref C))
def keyT : Key → T
  | .inl i => .int i
  | .inr x => .str x
/-- a dict of such keys stands at a, its values ws -/
def DicAt (H : Hp) (a : Addr) : Bool → List T → List V → Prop
  | false, ks, ws => ∃ kvs : List (Key × V), H a = some (.dK kvs) ∧ kvs.map (fun p => keyT p.1) = ks ∧ kvs.map (·.2) = ws
  | true, ks, ws => ∃ kvs : List (List Key × V), H a = some (.dT kvs) ∧ kvs.map (fun p => T.tup (p.1.map keyT)) = ks ∧ kvs.map (·.2) = ws
/-- what may change -/
def Chg : HO → Prop
  | .lst _ => True
  | .dK _ => True
  | .dT _ => True
  | .ins _ _ fs => done (fs.map (·.1)) = false
  | _ => False
mutual
/-- v is the tree t in the heap H; f: the addresses of its lists that may change -/
def Rep (K : PySem.W.Frag) (H : Hp) : T → V → List Addr → Prop
  | .non, v, f => v = .non ∧ f = []
  | .bl b, v, f => v = .bl b ∧ f = []
  | .int i, v, f => v = .int i ∧ f = []
  | .str s, v, f => v = .str s ∧ f = []
  | .tup ts, v, f => ∃ a vs, v = .ref a ∧ H a = some (.tup vs) ∧ Reps K H ts vs f
  | .lst ts, v, f => ∃ a vs g, v = .ref a ∧ f = a :: g ∧ H a = some (.lst vs) ∧ Reps K H ts vs g
  | .fro ns, v, f => f = [] ∧ ∃ a, v = .ref a ∧ ((∃ o, H a = some (.frz o (.lst (ns.map .int)))) ∨ ∀ H', SqL K H' a (ns.map .int))
  | .box, v, f => f = [] ∧ ∃ a, v = .ref a
  | .dct kd ks ts, v, f => ∃ a ws g, v = .ref a ∧ f = a :: g ∧ DicAt H a kd ks ws ∧ Reps K H ts ws g
  | .obj cn ns ts, v, f => ∃ a C dx ws, v = .ref a ∧ ClsAt K cn C ∧ H a = some (.ins C dx (ns.zip ws)) ∧ ns.length = ts.length ∧ done ns = true ∧ Reps K H ts ws f
  | .mob cn ns ts, v, f => ∃ a C dx ws g, v = .ref a ∧ f = a :: g ∧ ClsAt K cn C ∧ H a = some (.ins C dx (ns.zip ws)) ∧ ns.length = ts.length ∧ done ns = false ∧ Reps K H ts ws g
def Reps (K : PySem.W.Frag) (H : Hp) : List T → List V → List Addr → Prop
  | [], vs, f => vs = [] ∧ f = []
  | t :: ts, vs, f => ∃ v ws f1 f2, vs = v :: ws ∧ f = f1 ++ f2 ∧ Rep K H t v f1 ∧ Reps K H ts ws f2
end

section
variable {K : PySem.W.Frag} {H H' : Hp}

theorem Reps.len : ∀ {ts : List T} {vs : List V} {f : List Addr}, Reps K H ts vs f → vs.length = ts.length
  | [], _, _, h => by obtain ⟨rfl, _⟩ := h; rfl
  | t :: ts, _, _, h => by
    obtain ⟨v, ws, f1, f2, rfl, rfl, _, h2⟩ := h
    simp [Reps.len h2]

mutual
theorem Rep.imm_nil : ∀ {t : T} {v : V} {f : List Addr}, Rep K H t v f → t.imm = true → f = []
  | .non, _, _, h, _ => h.2
  | .bl _, _, _, h, _ => h.2
  | .int _, _, _, h, _ => h.2
  | .str _, _, _, h, _ => h.2
  | .tup ts, _, _, h, e => by
    obtain ⟨a, vs, _, _, r⟩ := h
    exact Reps.imm_nil r e
  | .lst _, _, _, _, e => by simp [T.imm] at e
  | .fro _, _, _, h, _ => h.1
  | .box, _, _, h, _ => h.1
  | .dct _ _ _, _, _, _, e => by simp [T.imm] at e
  | .obj _ _ ts, _, _, h, e => by
    obtain ⟨a, C, dx, ws, _, _, _, _, _, r⟩ := h
    exact Reps.imm_nil r e
  | .mob _ _ _, _, _, _, e => by simp [T.imm] at e
theorem Reps.imm_nil : ∀ {ts : List T} {vs : List V} {f : List Addr}, Reps K H ts vs f → T.imms ts = true → f = []
  | [], _, _, h, _ => h.2
  | t :: ts, _, _, h, e => by
    obtain ⟨v, ws, f1, f2, rfl, rfl, h1, h2⟩ := h
    simp only [T.imms, Bool.and_eq_true] at e
    rw [Rep.imm_nil h1 e.1, Reps.imm_nil h2 e.2]
    rfl
end

/-! an owned address holds what may change -/
theorem chg_dic {a : Addr} {kd : Bool} {ks : List T} {ws : List V} (h : DicAt H a kd ks ws) : ∃ o, H a = some o ∧ Chg o := by
  cases kd with
  | false => obtain ⟨kvs, e, _⟩ := h; exact ⟨_, e, True.intro⟩
  | true => obtain ⟨kvs, e, _⟩ := h; exact ⟨_, e, True.intro⟩
theorem zip_fst {α β : Type} : ∀ {l : List α} {m : List β}, l.length = m.length → (l.zip m).map (·.1) = l
  | [], _, _ => rfl
  | a :: l, [], h => by simp at h
  | a :: l, b :: m, h => by simp only [List.zip_cons_cons, List.map_cons]; rw [zip_fst (by simpa using h)]
mutual
theorem Rep.own : ∀ {t : T} {v : V} {f : List Addr}, Rep K H t v f → ∀ a ∈ f, ∃ o, H a = some o ∧ Chg o
  | .non, _, _, h, a, ha => by rw [h.2] at ha; cases ha
  | .bl _, _, _, h, a, ha => by rw [h.2] at ha; cases ha
  | .int _, _, _, h, a, ha => by rw [h.2] at ha; cases ha
  | .str _, _, _, h, a, ha => by rw [h.2] at ha; cases ha
  | .tup ts, _, _, h, a, ha => by
    obtain ⟨b, vs, _, _, r⟩ := h
    exact Reps.own r a ha
  | .lst ts, _, _, h, a, ha => by
    obtain ⟨b, vs, g, _, rfl, hb, r⟩ := h
    rcases List.mem_cons.mp ha with rfl | ha
    · exact ⟨_, hb, True.intro⟩
    · exact Reps.own r a ha
  | .fro _, _, _, h, a, ha => by rw [h.1] at ha; cases ha
  | .box, _, _, h, a, ha => by rw [h.1] at ha; cases ha
  | .dct kd ks ts, _, _, h, a, ha => by
    obtain ⟨b, ws, g, _, rfl, hb, r⟩ := h
    rcases List.mem_cons.mp ha with rfl | ha
    · exact chg_dic hb
    · exact Reps.own r a ha
  | .obj cn ns ts, _, _, h, a, ha => by
    obtain ⟨b, C, dx, ws, _, _, _, _, _, r⟩ := h
    exact Reps.own r a ha
  | .mob cn ns ts, _, _, h, a, ha => by
    obtain ⟨b, C, dx, ws, g, _, rfl, _, hb, hl, hd, r⟩ := h
    rcases List.mem_cons.mp ha with rfl | ha
    · refine ⟨_, hb, ?_⟩
      show done ((ns.zip ws).map (·.1)) = false
      rw [zip_fst (by rw [r.len]; exact hl)]
      exact hd
    · exact Reps.own r a ha
theorem Reps.own : ∀ {ts : List T} {vs : List V} {f : List Addr}, Reps K H ts vs f → ∀ a ∈ f, ∃ o, H a = some o ∧ Chg o
  | [], _, _, h, a, ha => by rw [h.2] at ha; cases ha
  | t :: ts, _, _, h, a, ha => by
    obtain ⟨v, ws, f1, f2, rfl, rfl, h1, h2⟩ := h
    rcases List.mem_append.mp ha with ha | ha
    · exact Rep.own h1 a ha
    · exact Reps.own h2 a ha
end

/-- G: what may change. What the tree stands on is kept -/
def Keep (G : Addr → Prop) (H H' : Hp) : Prop := ∀ a o, H a = some o → ¬ G a → H' a = some o
/-- what may change is of a kind that may -/
def Lists (G : Addr → Prop) (H : Hp) : Prop := ∀ a, G a → ∃ o, H a = some o ∧ Chg o
/-- a thing of another kind is kept -/
theorem kept_of {G : Addr → Prop} (k : Keep G H H') (hl : Lists G H) {a : Addr} {o : HO} (h : H a = some o) (n : ¬ Chg o) : H' a = some o :=
  k a o h fun g => by obtain ⟨o', e, c⟩ := hl a g; rw [h] at e; cases e; exact n c

theorem tup_keep {G : Addr → Prop} (k : Keep G H H') (hl : Lists G H) {a : Addr} {vs : List V} (h : H a = some (.tup vs)) : H' a = some (.tup vs) := kept_of k hl h id
theorem dicAt_keep {G : Addr → Prop} (k : Keep G H H') {a : Addr} {kd : Bool} {ks : List T} {ws : List V} (h : DicAt H a kd ks ws) (n : ¬ G a) : DicAt H' a kd ks ws := by
  cases kd with
  | false => obtain ⟨kvs, e, r⟩ := h; exact ⟨kvs, k a _ e n, r⟩
  | true => obtain ⟨kvs, e, r⟩ := h; exact ⟨kvs, k a _ e n, r⟩

mutual
theorem Rep.keep {G : Addr → Prop} (k : Keep G H H') (hl : Lists G H) : ∀ {t : T} {v : V} {f : List Addr}, (∀ a ∈ f, ¬ G a) → Rep K H t v f → Rep K H' t v f
  | .non, _, _, _, h => h
  | .bl _, _, _, _, h => h
  | .int _, _, _, _, h => h
  | .str _, _, _, _, h => h
  | .tup ts, _, _, d, h => by
    obtain ⟨a, vs, e, s, r⟩ := h
    exact ⟨a, vs, e, tup_keep k hl s, Reps.keep k hl d r⟩
  | .lst ts, _, _, d, h => by
    obtain ⟨a, vs, g, e, rfl, ha, r⟩ := h
    exact ⟨a, vs, g, e, rfl, k a _ ha (d a List.mem_cons_self), Reps.keep k hl (fun b hb => d b (List.mem_cons_of_mem _ hb)) r⟩
  | .fro ns, _, _, d, h => by
    obtain ⟨e, a, e2, h⟩ := h
    refine ⟨e, a, e2, ?_⟩
    rcases h with ⟨o, h⟩ | h
    · exact .inl ⟨o, kept_of k hl h id⟩
    · exact .inr h
  | .box, _, _, d, h => h
  | .dct kd ks ts, _, _, d, h => by
    obtain ⟨a, ws, g, e, rfl, ha, r⟩ := h
    exact ⟨a, ws, g, e, rfl, dicAt_keep k ha (d a List.mem_cons_self), Reps.keep k hl (fun b hb => d b (List.mem_cons_of_mem _ hb)) r⟩
  | .obj cn ns ts, _, _, d, h => by
    obtain ⟨a, C, dx, ws, e, hc, ha, hn, hd, r⟩ := h
    refine ⟨a, C, dx, ws, e, hc, kept_of k hl ha (fun z => ?_), hn, hd, Reps.keep k hl d r⟩
    have z' : done ((ns.zip ws).map (·.1)) = false := z
    rw [zip_fst (by rw [r.len]; exact hn), hd] at z'
    cases z'
  | .mob cn ns ts, _, _, d, h => by
    obtain ⟨a, C, dx, ws, g, e, rfl, hc, ha, hn, hd, r⟩ := h
    exact ⟨a, C, dx, ws, g, e, rfl, hc, k a _ ha (d a List.mem_cons_self), hn, hd, Reps.keep k hl (fun b hb => d b (List.mem_cons_of_mem _ hb)) r⟩
theorem Reps.keep {G : Addr → Prop} (k : Keep G H H') (hl : Lists G H) : ∀ {ts : List T} {vs : List V} {f : List Addr}, (∀ a ∈ f, ¬ G a) → Reps K H ts vs f → Reps K H' ts vs f
  | [], _, _, _, h => h
  | t :: ts, _, _, d, h => by
    obtain ⟨v, ws, f1, f2, rfl, rfl, h1, h2⟩ := h
    exact ⟨v, ws, f1, f2, rfl, rfl, Rep.keep k hl (fun a ha => d a (List.mem_append_left _ ha)) h1, Reps.keep k hl (fun a ha => d a (List.mem_append_right _ ha)) h2⟩
end

/-- all is kept -/
theorem Rep.ext (k : ∀ a o, H a = some o → H' a = some o) {t : T} {v : V} {f : List Addr} (h : Rep K H t v f) : Rep K H' t v f :=
  Rep.keep (G := fun _ => False) (fun a o e _ => k a o e) (fun _ z => z.elim) (fun _ _ z => z) h
theorem Reps.ext (k : ∀ a o, H a = some o → H' a = some o) {ts : List T} {vs : List V} {f : List Addr} (h : Reps K H ts vs f) : Reps K H' ts vs f :=
  Reps.keep (G := fun _ => False) (fun a o e _ => k a o e) (fun _ z => z.elim) (fun _ _ z => z) h

theorem Reps.append : ∀ {ts us : List T} {vs ws : List V} {f g : List Addr}, Reps K H ts vs f → Reps K H us ws g → Reps K H (ts ++ us) (vs ++ ws) (f ++ g)
  | [], _, _, _, _, _, h, h' => by obtain ⟨rfl, rfl⟩ := h; exact h'
  | t :: ts, _, _, _, _, _, h, h' => by
    obtain ⟨v, ws, f1, f2, rfl, rfl, h1, h2⟩ := h
    exact ⟨v, ws ++ _, f1, f2 ++ _, rfl, by simp, h1, Reps.append h2 h'⟩
theorem Reps.one {t : T} {v : V} {f : List Addr} (h : Rep K H t v f) : Reps K H [t] [v] f := ⟨v, [], f, [], rfl, by simp, h, rfl, rfl⟩

/-- the k-th item -/
theorem Reps.get : ∀ {ts : List T} {vs : List V} {f : List Addr} {k : Nat} {t : T}, Reps K H ts vs f → ts[k]? = some t →
    ∃ v f1 g f2, vs[k]? = some v ∧ f = f1 ++ g ++ f2 ∧ Rep K H t v g ∧ Reps K H (ts.take k) (vs.take k) f1 ∧ Reps K H (ts.drop (k + 1)) (vs.drop (k + 1)) f2
  | [], _, _, _, _, _, e => by simp at e
  | t :: ts, _, _, 0, s, h, e => by
    obtain ⟨v, ws, f1, f2, rfl, rfl, h1, h2⟩ := h
    have e' : t = s := by simpa using e
    subst e'
    exact ⟨v, [], f1, f2, rfl, by simp, h1, ⟨rfl, rfl⟩, h2⟩
  | t :: ts, _, _, k + 1, s, h, e => by
    obtain ⟨v, ws, f1, f2, rfl, rfl, h1, h2⟩ := h
    obtain ⟨v', g1, g, g2, a, b, c, d1, d2⟩ := Reps.get (k := k) h2 (by simpa using e)
    exact ⟨v', f1 ++ g1, g, g2, by simpa using a, by rw [b]; simp, c, ⟨v, ws.take k, f1, g1, by simp, rfl, h1, d1⟩, d2⟩
theorem Reps.take : ∀ {ts : List T} {vs : List V} {f : List Addr} (k : Nat), Reps K H ts vs f → ∃ f1 f2, f = f1 ++ f2 ∧ Reps K H (ts.take k) (vs.take k) f1 ∧ Reps K H (ts.drop k) (vs.drop k) f2
  | ts, vs, f, 0, h => ⟨[], f, rfl, ⟨by simp, rfl⟩, h⟩
  | [], _, _, k + 1, h => by
    obtain ⟨rfl, rfl⟩ := h
    exact ⟨[], [], rfl, ⟨rfl, rfl⟩, ⟨rfl, rfl⟩⟩
  | t :: ts, _, _, k + 1, h => by
    obtain ⟨v, ws, f1, f2, rfl, rfl, h1, h2⟩ := h
    obtain ⟨g1, g2, rfl, a, b⟩ := Reps.take k h2
    exact ⟨f1 ++ g1, g2, by simp, ⟨v, ws.take k, f1, g1, by simp, rfl, h1, a⟩, by simpa using b⟩

/-! ### places in a tree -/
/-- the items of a list or a tuple -/
def T.items : T → Option (List T)
  | .tup ts => some ts
  | .lst ts => some ts
  | _ => none
def T.at : T → List Nat → Option T
  | t, [] => some t
  | t, k :: p => match t.items with
    | some ts => match ts[k]? with
      | some s => s.at p
      | none => none
    | none => none
def T.remake : T → List T → T
  | .tup _, ts => .tup ts
  | .lst _, ts => .lst ts
  | t, _ => t
/-- t with s at the place -/
def T.put (s : T) : T → List Nat → T
  | _, [] => s
  | t, k :: p => match t.items with
    | some ts => match ts[k]? with
      | some u => t.remake (ts.set k (T.put s u p))
      | none => t
    | none => t
/-- t stands at u, on f; at the place p in it is s, at v, on g -/
def RepP (K : PySem.W.Frag) (H : Hp) : List Nat → T → V → List Addr → T → V → List Addr → Prop
  | [], t, u, f, s, v, g => t = s ∧ u = v ∧ f = g ∧ Rep K H t u f
  | k :: p, .lst ts, u, f, s, v, g => ∃ a vs x y f1 fm f2, u = .ref a ∧ f = a :: (f1 ++ fm ++ f2) ∧ H a = some (.lst vs) ∧ ts[k]? = some x ∧ vs[k]? = some y ∧
      Reps K H (ts.take k) (vs.take k) f1 ∧ RepP K H p x y fm s v g ∧ Reps K H (ts.drop (k + 1)) (vs.drop (k + 1)) f2
  | k :: p, .tup ts, u, f, s, v, g => ∃ a vs x y f1 fm f2, u = .ref a ∧ f = f1 ++ fm ++ f2 ∧ H a = some (.tup vs) ∧ ts[k]? = some x ∧ vs[k]? = some y ∧
      Reps K H (ts.take k) (vs.take k) f1 ∧ RepP K H p x y fm s v g ∧ Reps K H (ts.drop (k + 1)) (vs.drop (k + 1)) f2
  | _ :: _, _, _, _, _, _, _ => False
theorem RepP.ext (kp : ∀ a o, H a = some o → H' a = some o) : ∀ {p : List Nat} {t s : T} {u v : V} {f g : List Addr}, RepP K H p t u f s v g → RepP K H' p t u f s v g
  | [], _, _, _, _, _, _, h => ⟨h.1, h.2.1, h.2.2.1, h.2.2.2.ext kp⟩
  | k :: p, .lst ts, _, _, _, _, _, h => by
    obtain ⟨a, vs, x, y, f1, fm, f2, h1, h2, h3, h4, h5, h6, h7, h8⟩ := h
    exact ⟨a, vs, x, y, f1, fm, f2, h1, h2, kp _ _ h3, h4, h5, h6.ext kp, RepP.ext kp h7, h8.ext kp⟩
  | k :: p, .tup ts, _, _, _, _, _, h => by
    obtain ⟨a, vs, x, y, f1, fm, f2, h1, h2, h3, h4, h5, h6, h7, h8⟩ := h
    exact ⟨a, vs, x, y, f1, fm, f2, h1, h2, kp _ _ h3, h4, h5, h6.ext kp, RepP.ext kp h7, h8.ext kp⟩
theorem RepP.comp : ∀ {p q : List Nat} {t s x : T} {u v y : V} {f g h : List Addr}, RepP K H p t u f s v g → RepP K H q s v g x y h → RepP K H (p ++ q) t u f x y h
  | [], q, _, _, _, _, _, _, _, _, _, h, h' => by obtain ⟨rfl, rfl, rfl, _⟩ := h; exact h'
  | k :: p, q, .lst ts, _, _, _, _, _, _, _, _, h, h' => by
    obtain ⟨a, vs, x, y, f1, fm, f2, h1, h2, h3, h4, h5, h6, h7, h8⟩ := h
    exact ⟨a, vs, x, y, f1, fm, f2, h1, h2, h3, h4, h5, h6, RepP.comp h7 h', h8⟩
  | k :: p, q, .tup ts, _, _, _, _, _, _, _, _, h, h' => by
    obtain ⟨a, vs, x, y, f1, fm, f2, h1, h2, h3, h4, h5, h6, h7, h8⟩ := h
    exact ⟨a, vs, x, y, f1, fm, f2, h1, h2, h3, h4, h5, h6, RepP.comp h7 h', h8⟩

theorem reps_set {ts : List T} {vs : List V} {f1 g f2 : List Addr} {k : Nat} {s : T} {v : V} (hv : vs[k]? = some v) (hk : k < ts.length) (h1 : Reps K H (ts.take k) (vs.take k) f1) (h : Rep K H s v g)
    (h2 : Reps K H (ts.drop (k + 1)) (vs.drop (k + 1)) f2) : Reps K H (ts.set k s) vs (f1 ++ g ++ f2) := by
  have e1 : ts.set k s = ts.take k ++ (s :: ts.drop (k + 1)) := by
    rw [List.set_eq_take_append_cons_drop, if_pos hk]
  have e2 : vs = vs.take k ++ (v :: vs.drop (k + 1)) := by
    obtain ⟨hlt, e⟩ := List.getElem?_eq_some_iff.mp hv
    rw [← e, List.getElem_cons_drop, List.take_append_drop]
  rw [e1, e2, List.append_assoc]
  exact Reps.append (by simpa using h1) ⟨v, _, g, f2, rfl, rfl, h, h2⟩

theorem RepP.use : ∀ {p : List Nat} {t s : T} {u v : V} {f g : List Addr}, RepP K H p t u f s v g →
    Rep K H t u f ∧ Rep K H s v g ∧ t.at p = some s ∧ ∃ f1 f2, f = f1 ++ g ++ f2 ∧
      ∀ (H' : Hp) (s' : T) (g' : List Addr) (G : Addr → Prop), Keep G H H' → Lists G H → (∀ a ∈ f1, ¬ G a) → (∀ a ∈ f2, ¬ G a) → Rep K H' s' v g' → Rep K H' (T.put s' t p) u (f1 ++ g' ++ f2)
  | [], t, s, u, v, f, g, h => by
    obtain ⟨rfl, rfl, rfl, r⟩ := h
    exact ⟨r, r, by simp [T.at], [], [], by simp, fun H' s' g' _ _ _ _ _ r => by simpa [T.put] using r⟩
  | k :: p, .tup ts, s, u, v, f, g, h => by
    obtain ⟨b, vs, x, y, f1, fm, f2, rfl, rfl, sq, hk, hy, r1, rp, r2⟩ := h
    obtain ⟨rx, rs, ea, g1, g2, rfl, fin⟩ := RepP.use rp
    have klt : k < ts.length := (List.getElem?_eq_some_iff.mp hk).1
    have e0 : ts.set k x = ts := by
      obtain ⟨hlt, e⟩ := List.getElem?_eq_some_iff.mp hk
      rw [← e, List.set_getElem_self]
    have r0 := reps_set hy klt r1 rx r2
    rw [e0] at r0
    refine ⟨⟨b, vs, rfl, sq, r0⟩, rs, by simp [T.at, T.items, hk, ea], f1 ++ g1, g2 ++ f2, by simp, fun H' s' g' G kp hl d1 d2 r' => ?_⟩
    have z := fin H' s' g' G kp hl (fun a h => d1 a (List.mem_append_right _ h)) (fun a h => d2 a (List.mem_append_left _ h)) r'
    have q := reps_set hy klt (Reps.keep kp hl (fun a h => d1 a (List.mem_append_left _ h)) r1) z (Reps.keep kp hl (fun a h => d2 a (List.mem_append_right _ h)) r2)
    simp only [T.put, T.items, hk, T.remake]
    exact ⟨b, vs, rfl, tup_keep kp hl sq, by simpa using q⟩
  | k :: p, .lst ts, s, u, v, f, g, h => by
    obtain ⟨b, vs, x, y, f1, fm, f2, rfl, rfl, sq, hk, hy, r1, rp, r2⟩ := h
    obtain ⟨rx, rs, ea, g1, g2, rfl, fin⟩ := RepP.use rp
    have klt : k < ts.length := (List.getElem?_eq_some_iff.mp hk).1
    have e0 : ts.set k x = ts := by
      obtain ⟨hlt, e⟩ := List.getElem?_eq_some_iff.mp hk
      rw [← e, List.set_getElem_self]
    have r0 := reps_set hy klt r1 rx r2
    rw [e0] at r0
    refine ⟨⟨b, vs, _, rfl, rfl, sq, r0⟩, rs, by simp [T.at, T.items, hk, ea], b :: (f1 ++ g1), g2 ++ f2, by simp, fun H' s' g' G kp hl d1 d2 r' => ?_⟩
    have z := fin H' s' g' G kp hl (fun a h => d1 a (List.mem_cons_of_mem _ (List.mem_append_right _ h))) (fun a h => d2 a (List.mem_append_left _ h)) r'
    have q := reps_set hy klt (Reps.keep kp hl (fun a h => d1 a (List.mem_cons_of_mem _ (List.mem_append_left _ h))) r1) z (Reps.keep kp hl (fun a h => d2 a (List.mem_append_right _ h)) r2)
    simp only [T.put, T.items, hk, T.remake]
    exact ⟨b, vs, _, rfl, rfl, kp b _ sq (d1 b List.mem_cons_self), by simpa using q⟩
end
end Pv
set_option Elab.async false
set_option linter.all false
set_option maxRecDepth 100000
set_option maxHeartbeats 2000000
/-! Pv part B: states, steps, outcomes; what an expression's reading is. -/
namespace Pv
open PySem L2

abbrev Rho := List (Option T)
/-- an outcome: a value of its own, or a place in a slot's tree -/
inductive O where
  | v (t : T) | p (i : Nat) (path : List Nat)
def O.isV : O → Bool
  | .v _ => true
  | .p _ _ => false
/-- a place within a slot's tree (not the whole) -/
def O.deep : O → Bool
  | .p _ (_ :: _) => true
  | _ => false
def getO (ρ : Rho) : O → Option T
  | .v t => some t
  | .p i path => match ρ[i]? with
    | some (some t) => t.at path
    | _ => none
inductive R where
  | ok (o : O) (ρ : Rho) (τ : Bool) | ex (c : Nat) (t : T) (ρ : Rho) | stuck
inductive RL where
  | ok (os : List O) (ρ : Rho) (τ : Bool) | ex (c : Nat) (t : T) (ρ : Rho) | stuck
inductive RB where
  | ok (b : Bool) (ρ : Rho) (τ : Bool) | ex (c : Nat) (t : T) (ρ : Rho) | stuck
inductive RS where
  | nx (ρ : Rho) | ret (t : T) (ρ : Rho) | bk (ρ : Rho) | ct (ρ : Rho) | ex (c : Nat) (t : T) (ρ : Rho) | stuck

abbrev Fp := Nat → List Addr
def In (fp : Fp) (a : Addr) : Prop := ∃ i, a ∈ fp i

structure Env (K : PySem.W.Frag) (ρ : Rho) (fp : Fp) (σ : L2.St) (H : Hp) : Prop where
  len : σ.length = ρ.length
  rep : ∀ i t, ρ[i]? = some (some t) → ∃ v, σ[i]? = some (some v) ∧ Rep K H t v (fp i)
  emp : ∀ i, (∀ t, ρ[i]? ≠ some (some t)) → fp i = []
  nd : ∀ i, (fp i).Nodup
  dj : ∀ i j a, a ∈ fp i → a ∈ fp j → i = j

structure Step (fp : Fp) (H : Hp) (fp' : Fp) (fo : List Addr) (H' : Hp) : Prop where
  keep : Keep (In fp) H H'
  sub : ∀ a, In fp' a ∨ a ∈ fo → In fp a ∨ H a = none
  nd : fo.Nodup
  dj : ∀ a ∈ fo, ¬ In fp' a

section
variable {K : PySem.W.Frag} {ρ ρ1 ρ2 : Rho} {fp fp1 fp2 : Fp} {σ : L2.St} {H H1 H2 : Hp} {fo fo1 fo2 : List Addr}

theorem Env.own (e : Env K ρ fp σ H) : Lists (In fp) H := fun a ⟨i, hi⟩ => by
  by_cases h : ∃ t, ρ[i]? = some (some t)
  · obtain ⟨t, h⟩ := h
    obtain ⟨v, _, r⟩ := e.rep i t h
    exact r.own a hi
  · rw [e.emp i fun t z => h ⟨t, z⟩] at hi
    cases hi
theorem Env.ext (e : Env K ρ fp σ H) (k : ∀ a o, H a = some o → H1 a = some o) : Env K ρ fp σ H1 :=
  ⟨e.len, fun i t h => by obtain ⟨v, a, r⟩ := e.rep i t h; exact ⟨v, a, r.ext k⟩, e.emp, e.nd, e.dj⟩
theorem Step.refl : Step fp H fp [] H := ⟨fun _ _ h _ => h, fun a h => .inl (by rcases h with h | h; exact h; cases h), .nil, fun _ h => by cases h⟩
theorem Step.ext (k : ∀ a o, H a = some o → H1 a = some o) : Step fp H fp [] H1 := ⟨fun a o h _ => k a o h, fun a h => .inl (by rcases h with h | h; exact h; cases h), .nil, fun _ h => by cases h⟩
theorem Step.drop (s : Step fp H fp1 fo H1) : Step fp H fp1 [] H1 := ⟨s.keep, fun a h => s.sub a (by rcases h with h | h; exact .inl h; cases h), .nil, fun _ h => by cases h⟩
theorem Step.back (s : Step fp H fp1 fo1 H1) {a : Addr} (h : H1 a = none) : In fp a ∨ H a = none := by
  by_cases hi : In fp a
  · exact .inl hi
  · refine .inr ?_
    cases e : H a with
    | none => rfl
    | some o => rw [s.keep a o e hi] at h; cases h
theorem Step.trans (s1 : Step fp H fp1 fo1 H1) (o1 : ∀ a ∈ fo1, H1 a ≠ none) (s2 : Step fp1 H1 fp2 fo2 H2) : Step fp H fp2 (fo1 ++ fo2) H2 := by
  have old : ∀ a, In fp1 a ∨ a ∈ fo1 ∨ H1 a = none → In fp a ∨ H a = none := fun a h => by
    rcases h with h | h | h
    · exact s1.sub a (.inl h)
    · exact s1.sub a (.inr h)
    · exact s1.back h
  refine ⟨fun a o e n => ?_, fun a h => ?_, ?_, fun a h => ?_⟩
  · refine s2.keep a o (s1.keep a o e n) fun h => ?_
    rcases s1.sub a (.inl h) with z | z
    · exact n z
    · rw [e] at z; cases z
  · rcases h with h | h
    · rcases s2.sub a (.inl h) with z | z
      · exact old a (.inl z)
      · exact old a (.inr (.inr z))
    · rcases List.mem_append.mp h with h | h
      · exact old a (.inr (.inl h))
      · rcases s2.sub a (.inr h) with z | z
        · exact old a (.inl z)
        · exact old a (.inr (.inr z))
  · refine List.nodup_append.mpr ⟨s1.nd, s2.nd, fun a h1 b h2 e => ?_⟩
    subst e
    rcases s2.sub a (.inr h2) with z | z
    · exact s1.dj a h1 z
    · exact o1 a h1 z
  · rcases List.mem_append.mp h with h | h
    · intro z
      rcases s2.sub a (.inl z) with z | z
      · exact s1.dj a h z
      · exact o1 a h z
    · exact s2.dj a h
theorem Step.trans0 (s1 : Step fp H fp1 [] H1) (s2 : Step fp1 H1 fp2 fo2 H2) : Step fp H fp2 fo2 H2 := s1.trans (fun _ h => by cases h) s2
/-- what is owned may be split off and forgotten -/
theorem Step.less (s : Step fp H fp1 fo H1) (h : fo1.Sublist fo) : Step fp H fp1 fo1 H1 :=
  ⟨s.keep, fun a z => s.sub a (by rcases z with z | z; exact .inl z; exact .inr (h.subset z)), s.nd.sublist h, fun a z => s.dj a (h.subset z)⟩

def Quiet (ρ : Rho) (fp : Fp) (H : Hp) (ρ' : Rho) (fp' : Fp) (H' : Hp) : Prop := ρ' = ρ ∧ fp' = fp ∧ ∀ a o, H a = some o → H' a = some o
theorem Quiet.refl : Quiet ρ fp H ρ fp H := ⟨rfl, rfl, fun _ _ h => h⟩
theorem Quiet.trans (a : Quiet ρ fp H ρ1 fp1 H1) (b : Quiet ρ1 fp1 H1 ρ2 fp2 H2) : Quiet ρ fp H ρ2 fp2 H2 :=
  ⟨b.1.trans a.1, b.2.1.trans a.2.1, fun x o h => b.2.2 x o (a.2.2 x o h)⟩

/-- the outcome o stands at v, on fo of its own -/
def OR (K : PySem.W.Frag) (ρ : Rho) (fp : Fp) (σ : L2.St) (H : Hp) : O → V → List Addr → Prop
  | .v t, v, fo => Rep K H t v fo
  | .p i path, v, fo => fo = [] ∧ ∃ u t s g, σ[i]? = some (some u) ∧ ρ[i]? = some (some t) ∧ RepP K H path t u (fp i) s v g
def ORs (K : PySem.W.Frag) (ρ : Rho) (fp : Fp) (σ : L2.St) (H : Hp) : List O → List V → List Addr → Prop
  | [], vs, fo => vs = [] ∧ fo = []
  | o :: os, vs, fo => ∃ v ws f1 f2, vs = v :: ws ∧ fo = f1 ++ f2 ∧ OR K ρ fp σ H o v f1 ∧ ORs K ρ fp σ H os ws f2
theorem OR.own {o : O} {v : V} (h : OR K ρ fp σ H o v fo) : ∀ a ∈ fo, H a ≠ none := by
  cases o with
  | v t =>
    intro a ha
    obtain ⟨xs, e, _⟩ := Rep.own (show Rep K H t v fo from h) a ha
    rw [e]; exact fun z => by cases z
  | p i path => intro a ha; rw [h.1] at ha; cases ha
theorem ORs.own : ∀ {os : List O} {vs : List V} {fo : List Addr}, ORs K ρ fp σ H os vs fo → ∀ a ∈ fo, H a ≠ none
  | [], _, _, h, a, ha => by rw [h.2] at ha; cases ha
  | o :: os, _, _, h, a, ha => by
    obtain ⟨v, ws, f1, f2, rfl, rfl, h1, h2⟩ := h
    rcases List.mem_append.mp ha with ha | ha
    · exact h1.own a ha
    · exact ORs.own h2 a ha
/-- the tree of an outcome -/
theorem OR.get {o : O} {v : V} {t : T} (e : Env K ρ fp σ H) (h : OR K ρ fp σ H o v fo) (g : getO ρ o = some t) : ∃ f, Rep K H t v f ∧ f.Nodup = f.Nodup ∧ (o.isV = true → f = fo) := by
  cases o with
  | v s =>
    cases g
    exact ⟨fo, h, rfl, fun _ => rfl⟩
  | p i path =>
    obtain ⟨_, u, t', s, g', h1, h2, h3⟩ := h
    obtain ⟨_, r, ea, _⟩ := h3.use
    simp only [getO, h2, ea] at g
    cases g
    exact ⟨g', r, rfl, fun z => by cases z⟩
/-- a pending outcome behind a further evaluation -/
theorem OR.pend {o : O} {v : V} {τ : Bool} (e1 : Env K ρ1 fp1 σ H1) (h : OR K ρ1 fp1 σ H1 o v fo1) (d : ∀ a ∈ fo1, ¬ In fp1 a) (e2 : Env K ρ2 fp2 σ H2) (s2 : Step fp1 H1 fp2 fo2 H2)
    (q : τ = false → Quiet ρ1 fp1 H1 ρ2 fp2 H2) (ok : o.deep = true → τ = false) (ok2 : ∀ i, o = .p i [] → ∃ t, ρ2[i]? = some (some t)) : OR K ρ2 fp2 σ H2 o v fo1 := by
  cases o with
  | v t => exact Rep.keep s2.keep e1.own d (show Rep K H1 t v fo1 from h)
  | p i path =>
    obtain ⟨z, u, t, s, g, h1, h2, h3⟩ := h
    cases path with
    | nil =>
      obtain ⟨t', ht'⟩ := ok2 i rfl
      obtain ⟨v', hv', r⟩ := e2.rep i t' ht'
      rw [h1] at hv'
      cases hv'
      obtain ⟨_, rfl, _, _⟩ := h3
      exact ⟨z, u, t', t', fp2 i, h1, ht', rfl, rfl, rfl, r⟩
    | cons k p =>
      obtain ⟨rfl, rfl, kk⟩ := q (ok rfl)
      exact ⟨z, u, t, s, g, h1, h2, h3.ext kk⟩
end

/-! ### exceptions -/
structure XI where
  xc : Nat → Addr
  xf : Nat → Str
  gd : Bool := false
def XRep (K : PySem.W.Frag) (xi : XI) (H : Hp) (d : Addr) (c : Nat) (t : T) : Prop :=
  ∃ fs v, H d = some (.xd fs) ∧ fs.lookup (xi.xf c) = some v ∧ Rep K H t v [] ∧ t.imm = true

/-! ### readings -/
def postE (K : PySem.W.Frag) (xi : XI) (W : WX) (σ : L2.St) (fp : Fp) (H : Hp) (ρ : Rho) (Q : V → Hp → Prop) : R → Prop
  | .ok o ρ' τ => ∀ v H' fp' fo, Env K ρ' fp' σ H' → Step fp H fp' fo H' → (τ = false → Quiet ρ fp H ρ' fp' H') → OR K ρ' fp' σ H' o v fo → Q v H'
  | .ex c t ρ' => ∀ d H' fp', Env K ρ' fp' σ H' → Step fp H fp' [] H' → XRep K xi H' d c t → W (.ref (xi.xc c)) (some d) σ H'
  | .stuck => False
def tE (K : PySem.W.Frag) (xi : XI) (W : WX) (sem : Rho → R) : TE := fun σ H Q => ∃ ρ fp, Env K ρ fp σ H ∧ postE K xi W σ fp H ρ Q (sem ρ)
def postL (K : PySem.W.Frag) (xi : XI) (W : WX) (σ : L2.St) (fp : Fp) (H : Hp) (ρ : Rho) (Q : List V → Hp → Prop) : RL → Prop
  | .ok os ρ' τ => ∀ vs H' fp' fo, Env K ρ' fp' σ H' → Step fp H fp' fo H' → (τ = false → Quiet ρ fp H ρ' fp' H') → ORs K ρ' fp' σ H' os vs fo → Q vs H'
  | .ex c t ρ' => ∀ d H' fp', Env K ρ' fp' σ H' → Step fp H fp' [] H' → XRep K xi H' d c t → W (.ref (xi.xc c)) (some d) σ H'
  | .stuck => False
def tL (K : PySem.W.Frag) (xi : XI) (W : WX) (sem : Rho → RL) : TA := fun σ H Q => ∃ ρ fp, Env K ρ fp σ H ∧ postL K xi W σ fp H ρ Q (sem ρ)
def postB (K : PySem.W.Frag) (xi : XI) (W : WX) (σ : L2.St) (fp : Fp) (H : Hp) (ρ : Rho) (Q : Bool → Hp → Prop) : RB → Prop
  | .ok b ρ' τ => ∀ H' fp', Env K ρ' fp' σ H' → Step fp H fp' [] H' → (τ = false → Quiet ρ fp H ρ' fp' H') → Q b H'
  | .ex c t ρ' => ∀ d H' fp', Env K ρ' fp' σ H' → Step fp H fp' [] H' → XRep K xi H' d c t → W (.ref (xi.xc c)) (some d) σ H'
  | .stuck => False
def tT (K : PySem.W.Frag) (xi : XI) (W : WX) (sem : Rho → RB) : TT := fun σ H Q => ∃ ρ fp, Env K ρ fp σ H ∧ postB K xi W σ fp H ρ Q (sem ρ)

/-- is the slot of a whole-slot place still there -/
def O.there (ρ : Rho) : O → Bool
  | .p i [] => match ρ[i]? with
    | some (some _) => true
    | _ => false
  | _ => true
/-- one after another -/
def evL : List (Rho → R) → Rho → RL
  | [], ρ => .ok [] ρ false
  | s :: ss, ρ => match s ρ with
    | .ok o ρ1 τ1 => match evL ss ρ1 with
      | .ok os ρ2 τ2 => if (o.deep && τ2) || !o.there ρ2 then .stuck else .ok (o :: os) ρ2 (τ1 || τ2)
      | .ex c t ρ2 => .ex c t ρ2
      | .stuck => .stuck
    | .ex c t ρ1 => .ex c t ρ1
    | .stuck => .stuck

theorem there_get {ρ : Rho} {o : O} (h : o.there ρ = true) : ∀ i, o = .p i [] → ∃ t, ρ[i]? = some (some t) := by
  rintro i rfl
  simp only [O.there] at h
  cases e : ρ[i]? with
  | none => rw [e] at h; cases h
  | some x =>
    cases x with
    | none => rw [e] at h; cases h
    | some t => exact ⟨t, rfl⟩

/-- the nested readings of HandS, by the list's -/
def nest (K : PySem.W.Frag) (xi : XI) (W : WX) : List (Rho → R) → TA
  | [] => tNil
  | s :: ss => tCons (tE K xi W s) (nest K xi W ss)
theorem nest_of {K : PySem.W.Frag} {xi : XI} {W : WX} : ∀ {ss : List (Rho → R)} {σ : L2.St} {H : Hp} {Q : List V → Hp → Prop}, tL K xi W (evL ss) σ H Q → nest K xi W ss σ H Q
  | [], σ, H, Q, h => by
    obtain ⟨ρ, fp, e, h⟩ := h
    exact h [] H fp [] e Step.refl (fun _ => Quiet.refl) ⟨rfl, rfl⟩
  | s :: ss, σ, H, Q, h => by
    obtain ⟨ρ, fp, e, h⟩ := h
    refine ⟨ρ, fp, e, ?_⟩
    simp only [evL] at h
    cases hs : s ρ with
    | stuck => rw [hs] at h; exact h
    | ex c t ρ1 => rw [hs] at h; exact h
    | ok o ρ1 τ1 =>
      rw [hs] at h
      intro v H1 fp1 fo1 e1 s1 q1 r1
      refine nest_of (ss := ss) ⟨ρ1, fp1, e1, ?_⟩
      simp only at h
      cases hr : evL ss ρ1 with
      | stuck => rw [hr] at h; exact h
      | ex c t ρ2 =>
        rw [hr] at h
        exact fun d H2 fp2 e2 s2 x => h d H2 fp2 e2 (s1.drop.trans0 s2) x
      | ok os ρ2 τ2 =>
        rw [hr] at h
        simp only at h
        by_cases c : ((o.deep && τ2) || !o.there ρ2) = true
        · rw [if_pos c] at h; exact h.elim
        · rw [if_neg c] at h
          simp only [Bool.or_eq_true, Bool.and_eq_true, Bool.not_eq_true', not_or, not_and, Bool.not_eq_true, Bool.not_eq_false] at c
          intro vs H2 fp2 fo2 e2 s2 q2 r2
          refine h (v :: vs) H2 fp2 (fo1 ++ fo2) e2 (s1.trans r1.own s2) (fun z => ?_) ⟨v, vs, fo1, fo2, rfl, rfl, OR.pend e1 r1 s1.dj e2 s2 q2 c.1 (there_get c.2), r2⟩
          simp only [Bool.or_eq_false_iff] at z
          exact (q1 z.1).trans (q2 z.2)

/-! ### the module's facts, the context -/
structure Gm where
  P : Program
  w : World
  K : PySem.W.Frag
  mg : Str → Option Value
  base : Heap
  xi : XI
abbrev gm (X : Cx) (xi : XI) : Gm := ⟨X.prog, X.w, X.K, X.mg, X.base, xi⟩
structure Gd (X : Cx) (xi : XI) (N : List Str) (sc : Scope) (lvl : Nat) (cm : Bool) (W : WX) : Prop where
  hN : X.N = N
  nd : N.Nodup
  hsc : X.env.scope = sc
  hcm : cm = true → X.calm = true
  room : cm = true → Room lvl X.A
  un : X.A.units + 100 < cLine
  tk : Takes X W
  gu : xi.gd = true → X.A.guards = some []

theorem PE.to {X : Cx} {e : Expr} {t t' : TE} (h : PE X e t) (w : ∀ σ H Q, t' σ H Q → t σ H Q) : PE X e t' := ⟨fun pins s σ H Q I q => h.run pins s σ H Q I (w σ H Q q)⟩
theorem PT.to {X : Cx} {e : Expr} {t t' : TT} (h : PT X e t) (w : ∀ σ H Q, t' σ H Q → t σ H Q) : PT X e t' := ⟨fun pins s σ H Q I q => h.run pins s σ H Q I (w σ H Q q)⟩
theorem PA.to {X : Cx} {e : List Expr} {t t' : TA} (h : PA X e t) (w : ∀ σ H Q, t' σ H Q → t σ H Q) : PA X e t' := ⟨fun pos pins s σ H Q I q => h.run pos pins s σ H Q I (w σ H Q q)⟩
theorem PS.to {X : Cx} {e : Stmt} {t t' : TS} (h : PS X e t) (w : ∀ D σ H, t' D σ H → t D σ H) : PS X e t' := ⟨fun pins s σ H D I q => h.run pins s σ H D I (w D σ H q)⟩
theorem PSs.to {X : Cx} {e : List Stmt} {t t' : TS} (h : PSs X e t) (w : ∀ D σ H, t' D σ H → t D σ H) : PSs X e t' := ⟨fun pins s σ H D I q => h.run pins s σ H D I (w D σ H q)⟩

/-- an expression of ours: what it gives, which syntax it is, what it leans on, that it is right -/
structure Ex where
  sem : Rho → R
  m : List Str → Scope → Bool → Expr → Bool
  pre : Gm → Nat → Prop
  snd : ∀ {X : Cx} {xi : XI} {N : List Str} {sc : Scope} {lvl : Nat} {cm : Bool} {W : WX} {x : Expr}, Gd X xi N sc lvl cm W → pre (gm X xi) lvl → m N sc cm x = true → PE X x (tE X.K xi W sem)
structure Xs where
  sems : List (Rho → R)
  m : List Str → Scope → Bool → List Expr → Bool
  pre : Gm → Nat → Prop
  snd : ∀ {X : Cx} {xi : XI} {N : List Str} {sc : Scope} {lvl : Nat} {cm : Bool} {W : WX} {x : List Expr}, Gd X xi N sc lvl cm W → pre (gm X xi) lvl → m N sc cm x = true → PA X x (nest X.K xi W sems)
structure Bx where
  sem : Rho → RB
  m : List Str → Scope → Bool → Expr → Bool
  pre : Gm → Nat → Prop
  snd : ∀ {X : Cx} {xi : XI} {N : List Str} {sc : Scope} {lvl : Nat} {cm : Bool} {W : WX} {x : Expr}, Gd X xi N sc lvl cm W → pre (gm X xi) lvl → m N sc cm x = true → PT X x (tT X.K xi W sem)

/-! ### syntax: what an expression is not -/
def notStar : Expr → Bool
  | .Starred _ _ => false
  | _ => true
theorem starEach_of {x : Expr} {es : List Expr} {env : PySem.Env} (h : notStar x = true) : starEach (x :: es) env = (false, eval x env) :: starEach es env := by
  cases x <;> first | rfl | cases h
def xNil : Xs := ⟨[], fun _ _ _ es => es.isEmpty, fun _ _ => True, fun {X xi N sc lvl cm W x} g p h => by
  cases x with
  | nil => exact pa_nil
  | cons => cases h⟩
def xCons (a : Ex) (r : Xs) : Xs where
  sems := a.sem :: r.sems
  m := fun N sc cm es => match es with
    | e :: es => notStar e && (a.m N sc cm e && r.m N sc cm es)
    | [] => false
  pre := fun Γ k => a.pre Γ k ∧ r.pre Γ k
  snd := fun {X xi N sc lvl cm W x} g p h => by
    cases x with
    | nil => cases h
    | cons e es =>
      simp only [Bool.and_eq_true] at h
      exact pa_cons (a.snd g p.1 h.2.1) (r.snd g p.2 h.2.2) (starEach_of h.1)
def xs (l : List Ex) : Xs := l.foldr xCons xNil
end Pv
set_option Elab.async false
set_option linter.all false
set_option maxRecDepth 100000
set_option maxHeartbeats 2000000
/-! Pv part C: expressions. -/
namespace Pv
open PySem L2

/-- what an operation that changes nothing gives: the tree t, on part of fo or on new lists -/
def PureRes (K : PySem.W.Frag) (H : Hp) (fo : List Addr) (t : T) (Q : V → Hp → Prop) : Prop :=
  ∀ v H' fo', (∀ a o, H a = some o → H' a = some o) → Rep K H' t v fo' → (∀ a ∈ fo', a ∈ fo ∨ H a = none) → fo'.Nodup → Q v H'
def OpOkL (K : PySem.W.Frag) (f : Rho → List O → Option T) (r : List V → Hp → VK → Prop) : Prop :=
  ∀ ρ fp σ H os vs fo t, Env K ρ fp σ H → ORs K ρ fp σ H os vs fo → fo.Nodup → f ρ os = some t → ∀ Q, PureRes K H fo t Q → r vs H Q
def opSem (ss : List (Rho → R)) (f : Rho → List O → Option T) : Rho → R := fun ρ => match evL ss ρ with
  | .ok os ρ' τ => match f ρ' os with
    | some t => .ok (.v t) ρ' τ
    | none => .stuck
  | .ex c t ρ' => .ex c t ρ'
  | .stuck => .stuck

section
variable {K : PySem.W.Frag} {xi : XI} {W : WX} {ρ ρ' : Rho} {fp fp' : Fp} {σ : L2.St} {H H' : Hp} {fo : List Addr} {t : T} {τ : Bool} {Q : V → Hp → Prop}
theorem fin_pure (e : Env K ρ' fp' σ H') (s : Step fp H fp' fo H') (q : τ = false → Quiet ρ fp H ρ' fp' H') (h : postE K xi W σ fp H ρ Q (.ok (.v t) ρ' τ)) : PureRes K H' fo t Q := by
  intro v H2 fo2 k r sub nd
  refine h v H2 fp' fo2 (e.ext k) ⟨fun a o z n => k a o (s.keep a o z n), fun a z => ?_, nd, fun a z w => ?_⟩ (fun z => (q z).trans ⟨rfl, rfl, k⟩) r
  · rcases z with z | z
    · exact s.sub a (.inl z)
    · rcases sub a z with z | z
      · exact s.sub a (.inr z)
      · exact s.back z
  · rcases sub a z with z | z
    · exact s.dj a z w
    · obtain ⟨xs, e, _⟩ := e.own a w
      rw [e] at z; cases z
theorem op_to {ss : List (Rho → R)} {f : Rho → List O → Option T} {r : List V → Hp → VK → Prop} (ok : OpOkL K f r) (h : tE K xi W (opSem ss f) σ H Q) : nest K xi W ss σ H fun vs H1 => r vs H1 Q := by
  obtain ⟨ρ, fp, e, h⟩ := h
  refine nest_of ⟨ρ, fp, e, ?_⟩
  simp only [opSem] at h
  cases hs : evL ss ρ with
  | stuck => rw [hs] at h; exact h
  | ex c t ρ1 => rw [hs] at h; exact h
  | ok os ρ1 τ1 =>
    rw [hs] at h
    simp only at h
    cases hf : f ρ1 os with
    | none => rw [hf] at h; exact h.elim
    | some t =>
      rw [hf] at h
      exact fun vs H1 fp1 fo1 e1 s1 q1 r1 => ok ρ1 fp1 σ H1 os vs fo1 t e1 r1 s1.nd hf Q (fin_pure e1 s1 q1 h)
/-- a plain value -/
theorem PureRes.v {v : V} (h : PureRes K H fo t Q) (r : Rep K H t v []) : Q v H := h v H [] (fun _ _ z => z) r (fun _ z => by cases z) .nil
/-- a new tuple, a new list -/
theorem PureRes.tup {ts : List T} {vs : List V} {g : List Addr} (h : PureRes K H fo (.tup ts) Q) (r : Reps K H ts vs g) (sub : ∀ a ∈ g, a ∈ fo) (nd : g.Nodup) : ∀ p, H p = none → Q (.ref p) (upd H p (.tup vs)) := fun p hp => by
  have k : ∀ a o, H a = some o → upd H p (.tup vs) a = some o := fun a o e => by rw [upd_ne (ne_of_none e hp)]; exact e
  exact h (.ref p) _ g k ⟨p, vs, rfl, upd_same, r.ext k⟩ (fun a z => .inl (sub a z)) nd
theorem PureRes.lst {ts : List T} {vs : List V} {g : List Addr} (h : PureRes K H fo (.lst ts) Q) (r : Reps K H ts vs g) (sub : ∀ a ∈ g, a ∈ fo) (nd : g.Nodup) : ∀ p, H p = none → Q (.ref p) (upd H p (.lst vs)) := fun p hp => by
  have k : ∀ a o, H a = some o → upd H p (.lst vs) a = some o := fun a o e => by rw [upd_ne (ne_of_none e hp)]; exact e
  refine h (.ref p) _ (p :: g) k ⟨p, vs, g, rfl, rfl, upd_same, r.ext k⟩ (fun a z => ?_) (List.nodup_cons.mpr ⟨fun z => ?_, nd⟩)
  · rcases List.mem_cons.mp z with rfl | z
    · exact .inr hp
    · exact .inl (sub a z)
  · obtain ⟨xs, e, _⟩ := Reps.own r p z
    rw [e] at hp; cases hp
end

def f1 (g : T → Option T) (ρ : Rho) : List O → Option T
  | [a] => match getO ρ a with
    | some s => g s
    | none => none
  | _ => none
def f2 (g : T → T → Option T) (ρ : Rho) : List O → Option T
  | [a, b] => match getO ρ a, getO ρ b with
    | some s, some t => g s t
    | _, _ => none
  | _ => none
def f3 (g : T → T → T → Option T) (ρ : Rho) : List O → Option T
  | [a, b, c] => match getO ρ a, getO ρ b, getO ρ c with
    | some s, some t, some u => g s t u
    | _, _, _ => none
  | _ => none
theorem PureRes.less {K : PySem.W.Frag} {H : Hp} {fo : List Addr} {t : T} {Q : V → Hp → Prop} (h : PureRes K H fo t Q) : PureRes K H [] t Q :=
  fun v H' fo' k r s n => h v H' fo' k r (fun a z => by rcases s a z with z | z; cases z; exact .inr z) n
theorem ok1 {K : PySem.W.Frag} {g : T → Option T} {r : List V → Hp → VK → Prop} (h : ∀ H s u x fx, g s = some u → Rep K H s x fx → ∀ Q, PureRes K H [] u Q → r [x] H Q) : OpOkL K (f1 g) r := by
  intro ρ fp σ H os vs fo t e o nd hf Q p
  rcases os with _ | ⟨a, _ | ⟨b, os⟩⟩
  · simp only [f1] at hf; cases hf
  · obtain ⟨x, ws, f1', f2', rfl, rfl, o1, rfl, rfl⟩ := o
    simp only [f1] at hf
    cases ea : getO ρ a with
    | none => rw [ea] at hf; cases hf
    | some s =>
      rw [ea] at hf
      obtain ⟨fx, rx, _⟩ := o1.get e ea
      exact h H s t x fx hf rx Q p.less
  · simp only [f1] at hf; cases hf
theorem ok2 {K : PySem.W.Frag} {g : T → T → Option T} {r : List V → Hp → VK → Prop} (h : ∀ H s t u x y fx fy, g s t = some u → Rep K H s x fx → Rep K H t y fy → ∀ Q, PureRes K H [] u Q → r [x, y] H Q) : OpOkL K (f2 g) r := by
  intro ρ fp σ H os vs fo t e o nd hf Q p
  rcases os with _ | ⟨a, _ | ⟨b, _ | ⟨c, os⟩⟩⟩
  · simp only [f2] at hf; cases hf
  · simp only [f2] at hf; cases hf
  · obtain ⟨x, ws, f1', f2', rfl, rfl, o1, y, ws', f3', f4', rfl, rfl, o2, rfl, rfl⟩ := o
    simp only [f2] at hf
    cases ea : getO ρ a with
    | none => rw [ea] at hf; cases hf
    | some s =>
      cases eb : getO ρ b with
      | none => rw [ea, eb] at hf; cases hf
      | some s' =>
        rw [ea, eb] at hf
        obtain ⟨fx, rx, _⟩ := o1.get e ea
        obtain ⟨fy, ry, _⟩ := o2.get e eb
        exact h H s s' t x y fx fy hf rx ry Q p.less
  · simp only [f2] at hf; cases hf
theorem ok3 {K : PySem.W.Frag} {g : T → T → T → Option T} {r : List V → Hp → VK → Prop}
    (h : ∀ H s t u z x y w fx fy fw, g s t u = some z → Rep K H s x fx → Rep K H t y fy → Rep K H u w fw → ∀ Q, PureRes K H [] z Q → r [x, y, w] H Q) : OpOkL K (f3 g) r := by
  intro ρ fp σ H os vs fo t e o nd hf Q p
  rcases os with _ | ⟨a, _ | ⟨b, _ | ⟨c, _ | ⟨d, os⟩⟩⟩⟩
  · simp only [f3] at hf; cases hf
  · simp only [f3] at hf; cases hf
  · simp only [f3] at hf; cases hf
  · obtain ⟨x, ws, f1', f2', rfl, rfl, o1, y, ws', f3', f4', rfl, rfl, o2, w, ws'', f5', f6', rfl, rfl, o3, rfl, rfl⟩ := o
    simp only [f3] at hf
    cases ea : getO ρ a with
    | none => rw [ea] at hf; cases hf
    | some s =>
      cases eb : getO ρ b with
      | none => rw [ea, eb] at hf; cases hf
      | some s' =>
        cases ec : getO ρ c with
        | none => rw [ea, eb, ec] at hf; cases hf
        | some s'' =>
          rw [ea, eb, ec] at hf
          obtain ⟨fx, rx, _⟩ := o1.get e ea
          obtain ⟨fy, ry, _⟩ := o2.get e eb
          obtain ⟨fw, rw', _⟩ := o3.get e ec
          exact h H s s' s'' t x y w fx fy fw hf rx ry rw' Q p.less
  · simp only [f3] at hf; cases hf

/-! ### names -/
def visB (sc : Scope) (x : Str) : Bool := match sc.names.lookup x with
  | some .local => true
  | some .cell => true
  | some .free => true
  | _ => false
theorem vis_of {sc : Scope} {x : Str} (h : visB sc x = true) : Vis sc x := by
  unfold visB at h
  unfold Vis
  split at h
  · rename_i e; exact .inl e
  · rename_i e; exact .inr (.inl e)
  · rename_i e; exact .inr (.inr e)
  · cases h
def locB (sc : Scope) (x : Str) : Bool := match sc.names.lookup x with
  | some .local => true
  | some .cell => true
  | _ => false
theorem loc_of {sc : Scope} {x : Str} (h : locB sc x = true) : L2.Loc sc x := by
  unfold locB at h
  unfold L2.Loc
  split at h
  · rename_i e; exact .inl e
  · rename_i e; exact .inr e
  · cases h
def glB (sc : Scope) (x : Str) : Bool := decide (sc.names.lookup x = some .globalImplicit) && !(x == ("__debug__" : Str)) && !(decide (x = "__name__"))
structure GlOk (X : Cx) (x : Str) : Prop where
  gl : Gl X x
  db : (x == ("__debug__" : Str)) = false
  nn : x ≠ "__name__"
theorem gl_of {X : Cx} {sc : Scope} {x : Str} (e : X.env.scope = sc) (h : glB sc x = true) : GlOk X x := by
  unfold glB at h
  simp only [Bool.and_eq_true, decide_eq_true_eq, Bool.not_eq_true', decide_eq_false_iff_not] at h
  exact ⟨by show X.env.scope.names.lookup x = _; rw [e]; exact h.1.1, h.1.2, h.2⟩
def nmB (N : List Str) (sc : Scope) (i : Nat) (x : Str) : Bool := decide (N[i]? = some x) && visB sc x && !(x == ("__debug__" : Str)) && !(x == ("__classdict__" : Str))
theorem nm_of {X : Cx} {N : List Str} {sc : Scope} {i : Nat} {x : Str} {pos : Pos} (hN : X.N = N) (hs : X.env.scope = sc) (h : nmB N sc i x = true) : PE X (.Name x pos) (tVar i) := by
  unfold nmB at h
  simp only [Bool.and_eq_true, decide_eq_true_eq, Bool.not_eq_true'] at h
  exact pe_var (by rw [hN]; exact h.1.1.1) (by rw [hs]; exact vis_of h.1.1.2) h.1.2 h.2

def varSem (i : Nat) : Rho → R := fun ρ => match ρ[i]? with
  | some (some t) => if t.imm then .ok (.v t) ρ false else .ok (.p i []) ρ false
  | _ => .stuck
def eVar (i : Nat) : Ex where
  sem := varSem i
  m := fun N sc cm e => match e with
    | .Name x _ => nmB N sc i x
    | _ => false
  pre := fun _ _ => True
  snd := fun {X xi N sc lvl cm W x} g p h => by
    cases x <;> first | cases h | skip
    refine PE.to (nm_of g.hN g.hsc h) fun σ H Q hq => ?_
    obtain ⟨ρ, fp, e, hq⟩ := hq
    simp only [varSem] at hq
    split at hq
    · rename_i t ht
      obtain ⟨v, hv, r⟩ := e.rep i t ht
      refine ⟨v, hv, ?_⟩
      by_cases c : t.imm = true
      · rw [if_pos c] at hq
        have z := r.imm_nil c
        rw [z] at r
        exact hq v H fp [] e Step.refl (fun _ => Quiet.refl) r
      · rw [if_neg c] at hq
        exact hq v H fp [] e Step.refl (fun _ => Quiet.refl) ⟨rfl, v, t, t, fp i, hv, ht, rfl, rfl, rfl, r⟩
    · exact hq.elim
/-- a name whose list goes to another place: the slot is empty from then on -/
def moveSem (i : Nat) : Rho → R := fun ρ => match ρ[i]? with
  | some (some t) => .ok (.v t) (ρ.set i none) true
  | _ => .stuck
def eMove (i : Nat) : Ex where
  sem := moveSem i
  m := fun N sc cm e => match e with
    | .Name x _ => nmB N sc i x
    | _ => false
  pre := fun _ _ => True
  snd := fun {X xi N sc lvl cm W x} g p h => by
    cases x <;> first | cases h | skip
    refine PE.to (nm_of g.hN g.hsc h) fun σ H Q hq => ?_
    obtain ⟨ρ, fp, e, hq⟩ := hq
    simp only [moveSem] at hq
    split at hq
    · rename_i t ht
      obtain ⟨v, hv, r⟩ := e.rep i t ht
      have hi : i < ρ.length := (List.getElem?_eq_some_iff.mp ht).1
      refine ⟨v, hv, hq v H (fun j => if j = i then [] else fp j) (fp i) ⟨by rw [List.length_set]; exact e.len, fun j s hs => ?_, fun j hj => ?_, fun j => ?_, fun j k a ha hb => ?_⟩
        ⟨fun _ _ z _ => z, fun a z => .inl ?_, e.nd i, fun a ha z => ?_⟩ (fun z => by cases z) r⟩
      · by_cases c : j = i
        · subst c; rw [List.getElem?_set_self hi] at hs; cases hs
        · rw [List.getElem?_set_ne (Ne.symm c)] at hs
          simp only [if_neg c]
          exact e.rep j s hs
      · by_cases c : j = i
        · simp only [if_pos c]
        · simp only [if_neg c]
          exact e.emp j fun s hs => hj s (by rw [List.getElem?_set_ne (Ne.symm c)]; exact hs)
      · by_cases c : j = i
        · simp only [if_pos c]; exact .nil
        · simp only [if_neg c]; exact e.nd j
      · by_cases c : j = i
        · simp only [if_pos c] at ha; cases ha
        · by_cases d : k = i
          · simp only [if_pos d] at hb; cases hb
          · simp only [if_neg c] at ha
            simp only [if_neg d] at hb
            exact e.dj j k a ha hb
      · rcases z with ⟨j, z⟩ | z
        · by_cases c : j = i
          · simp only [if_pos c] at z; cases z
          · simp only [if_neg c] at z; exact ⟨j, z⟩
        · exact ⟨i, z⟩
      · obtain ⟨j, z⟩ := z
        by_cases c : j = i
        · simp only [if_pos c] at z; cases z
        · simp only [if_neg c] at z
          exact c (e.dj j i a z ha)
    · exact hq.elim

/-! ### constants -/
def cSem (t : T) : Rho → R := fun ρ => .ok (.v t) ρ false
theorem c_to {K : PySem.W.Frag} {xi : XI} {W : WX} {t : T} {v : V} (r : ∀ H, Rep K H t v []) {σ : L2.St} {H : Hp} {Q : VK} (h : tE K xi W (cSem t) σ H Q) : tC v σ H Q := by
  obtain ⟨ρ, fp, e, h⟩ := h
  exact h v H fp [] e Step.refl (fun _ => Quiet.refl) (r H)
def eInt (i : Int) : Ex where
  sem := cSem (.int i)
  m := fun N sc cm e => match e with
    | .Constant (.int j) _ _ => decide (j = i)
    | _ => false
  pre := fun _ _ => True
  snd := fun {X xi N sc lvl cm W x} g p h => by
    cases x <;> first | cases h | skip
    rename_i v _ _
    cases v <;> first | cases h | skip
    rw [of_decide_eq_true h]
    exact PE.to pe_int fun σ H Q hq => c_to (t := .int i) (v := .int i) (fun _ => ⟨rfl, rfl⟩) hq
def eStr (s : Str) : Ex where
  sem := cSem (.str s)
  m := fun N sc cm e => match e with
    | .Constant (.str j) _ _ => decide (j = s)
    | _ => false
  pre := fun _ _ => True
  snd := fun {X xi N sc lvl cm W x} g p h => by
    cases x <;> first | cases h | skip
    rename_i v _ _
    cases v <;> first | cases h | skip
    rw [of_decide_eq_true h]
    exact PE.to pe_str fun σ H Q hq => c_to (t := .str s) (v := .str s) (fun _ => ⟨rfl, rfl⟩) hq
def eBl (b : Bool) : Ex where
  sem := cSem (.bl b)
  m := fun N sc cm e => match e with
    | .Constant (.bool j) _ _ => decide (j = b)
    | _ => false
  pre := fun _ _ => True
  snd := fun {X xi N sc lvl cm W x} g p h => by
    cases x <;> first | cases h | skip
    rename_i v _ _
    cases v <;> first | cases h | skip
    rw [of_decide_eq_true h]
    exact PE.to pe_bl fun σ H Q hq => c_to (t := .bl b) (v := .bl b) (fun _ => ⟨rfl, rfl⟩) hq
def eNon : Ex where
  sem := cSem .non
  m := fun N sc cm e => match e with
    | .Constant .none _ _ => true
    | _ => false
  pre := fun _ _ => True
  snd := fun {X xi N sc lvl cm W x} g p h => by
    cases x <;> first | cases h | skip
    rename_i v _ _
    cases v <;> first | cases h | skip
    exact PE.to pe_non fun σ H Q hq => c_to (t := .non) (v := .non) (fun _ => ⟨rfl, rfl⟩) hq
/-- a module's constant: an int or a text -/
def eGlob (x : Str) (t : T) : Ex where
  sem := cSem t
  m := fun N sc cm e => match e with
    | .Name y _ => decide (y = x) && glB sc y
    | _ => false
  pre := fun Γ _ => ∃ v u, Γ.mg x = some u ∧ RelV v u ∧ ∀ H, Rep Γ.K H t v []
  snd := fun {X xi N sc lvl cm W e} g p h => by
    cases e <;> first | cases h | skip
    simp only [Bool.and_eq_true, decide_eq_true_eq] at h
    obtain ⟨v, u, hm, r, rp⟩ := p
    have G := gl_of g.hsc h.2
    rw [h.1] at G ⊢
    exact PE.to (pe_glob G.gl hm r G.db) fun σ H Q hq => c_to rp hq

/-! ### operators -/
theorem addS_len (x y : Str) : (x ++ y).length = x.length + y.length := by
  show (x.cps ++ y.cps).size = _
  rw [Array.size_append]; rfl
def addT : T → T → Option T
  | .int i, .int j => some (.int (i + j))
  | .str s, .str t => if s.length + t.length ≤ sizeLine then some (.str (s ++ t)) else none
  | .tup xs, .tup ys => if T.imms xs = true ∧ T.imms ys = true ∧ xs.length + ys.length ≤ sizeLine then some (.tup (xs ++ ys)) else none
  | .lst xs, .lst ys => if T.imms xs = true ∧ T.imms ys = true ∧ xs.length + ys.length ≤ sizeLine then some (.lst (xs ++ ys)) else none
  | _, _ => none
def subT : T → T → Option T
  | .int i, .int j => some (.int (i - j))
  | _, _ => none
def mulT : T → T → Option T
  | .int i, .int j => if (-(2 ^ 64) < i ∧ i < 2 ^ 64) ∨ (-(2 ^ 64) < j ∧ j < 2 ^ 64) then some (.int (i * j)) else none
  | .str x, .int n => if 1 ≤ n ∧ n ≤ 16777216 ∧ x.length * n.toNat ≤ 16777216 then some (.str ⟨(List.replicate n.toNat x.cps.toList).flatten.toArray⟩) else none
  | _, _ => none
def modT : T → T → Option T
  | .int i, .int j => if 0 < j then some (.int (i % j)) else none
  | _, _ => none
def divT : T → T → Option T
  | .int i, .int j => if 0 < j ∧ j < 1073741824 then some (.int (i / j)) else none
  | _, _ => none
def powT : T → T → Option T
  | .int i, .int j => if 0 ≤ j ∧ j ≤ 1000000 ∧ i.natAbs < 2 ^ 64 then some (.int (i ^ j.toNat)) else none
  | _, _ => none
def shlT : T → T → Option T
  | .int i, .int j => if 0 ≤ j ∧ j ≤ 1000000 ∧ i.natAbs < 2 ^ 64 then some (.int (i * 2 ^ j.toNat)) else none
  | _, _ => none
def shrT : T → T → Option T
  | .int i, .int j => if 0 ≤ j then some (.int (i / 2 ^ j.toNat)) else none
  | _, _ => none
def andT : T → T → Option T
  | .int i, .int j => some (.int (Builtin.bitAnd i j))
  | _, _ => none
def orT : T → T → Option T
  | .int i, .int j => some (.int (Builtin.bitOr i j))
  | _, _ => none
def xorT : T → T → Option T
  | .int i, .int j => some (.int (Builtin.bitXor i j))
  | _, _ => none
def binT : Operator → T → T → Option T
  | .Add => addT | .Sub => subT | .Mult => mulT | .Mod => modT | .FloorDiv => divT | .Pow => powT | .LShift => shlT | .RShift => shrT | .BitAnd => andT | .BitOr => orT | .BitXor => xorT
  | _ => fun _ _ => none

/-- the rule of a two-place operation, over lists of two -/
def rr (r : R2) : List V → Hp → VK → Prop
  | [x, y], H, Q => r x y H Q
  | _, _, _ => False
theorem ok_ints {K : PySem.W.Frag} {g : T → T → Option T} {C : Int → Int → Prop} {k : Int → Int → Int} (h : ∀ s t u, g s t = some u → ∃ i j, s = .int i ∧ t = .int j ∧ C i j ∧ u = .int (k i j)) : OpOkL K (f2 g) (rr (rI C fun i j => .int (k i j))) := by
  refine ok2 fun H s t u x y fx fy hg rx ry Q p => ?_
  obtain ⟨i, j, rfl, rfl, c, rfl⟩ := h s t u hg
  obtain ⟨rfl, _⟩ := rx
  obtain ⟨rfl, _⟩ := ry
  exact ⟨i, j, rfl, rfl, c, p.v ⟨rfl, rfl⟩⟩
theorem ok_ints0 {K : PySem.W.Frag} {g : T → T → Option T} {k : Int → Int → Int} (h : ∀ s t u, g s t = some u → ∃ i j, s = .int i ∧ t = .int j ∧ u = .int (k i j)) : OpOkL K (f2 g) (rr (rI0 fun i j => .int (k i j))) := by
  refine ok2 fun H s t u x y fx fy hg rx ry Q p => ?_
  obtain ⟨i, j, rfl, rfl, rfl⟩ := h s t u hg
  obtain ⟨rfl, _⟩ := rx
  obtain ⟨rfl, _⟩ := ry
  exact ⟨i, j, rfl, rfl, p.v ⟨rfl, rfl⟩⟩
def rCatL (K : PySem.W.Frag) : R2 := rCat
theorem ok_add {K : PySem.W.Frag} : OpOkL K (f2 addT) (rr fun x y H Q => (rI0 (fun i j => .int (i + j))) x y H Q ∨ ((∃ i j, x = .str i ∧ y = .str j ∧ i.length + j.length ≤ sizeLine ∧ Q (.str (i ++ j)) H) ∨ (rCatA K x y H Q ∨ rCat x y H Q))) := by
  refine ok2 fun H s t u x y fx fy hg rx ry Q p => ?_
  show _ ∨ _
  unfold addT at hg
  split at hg
  · cases hg
    obtain ⟨rfl, _⟩ := rx
    obtain ⟨rfl, _⟩ := ry
    exact .inl ⟨_, _, rfl, rfl, p.v ⟨rfl, rfl⟩⟩
  · split at hg
    · rename_i c
      cases hg
      obtain ⟨rfl, _⟩ := rx
      obtain ⟨rfl, _⟩ := ry
      exact .inr (.inl ⟨_, _, rfl, rfl, c, p.v ⟨rfl, rfl⟩⟩)
    · cases hg
  · split at hg
    · rename_i c
      cases hg
      obtain ⟨a, vs, rfl, sa, ra⟩ := rx
      obtain ⟨b, ws, rfl, sb, rb⟩ := ry
      have ea := ra.imm_nil c.1
      have eb := rb.imm_nil c.2.1
      subst ea eb
      have la := ra.len
      have lb := rb.len
      refine .inr (.inr (.inl ⟨a, b, vs, ws, rfl, rfl, SqT.of sa, SqT.of sb, by omega, fun z => ?_, fun z w => ?_, fun _ _ => p.tup (g := []) (by simpa using Reps.append ra rb) (fun _ z => by cases z) .nil⟩))
      · subst z
        rename_i xs ys
        have ex : xs = [] := List.eq_nil_of_length_eq_zero (by simpa using la.symm)
        subst ex
        exact p.v ⟨b, ws, rfl, sb, rb⟩
      · subst w
        rename_i xs ys
        have ey : ys = [] := List.eq_nil_of_length_eq_zero (by simpa using lb.symm)
        subst ey
        exact p.v ⟨a, vs, rfl, sa, by simpa using ra⟩
    · cases hg
  · split at hg
    · rename_i c
      cases hg
      obtain ⟨a, vs, g1, rfl, _, sa, ra⟩ := rx
      obtain ⟨b, ws, g2, rfl, _, sb, rb⟩ := ry
      have ea := ra.imm_nil c.1
      have eb := rb.imm_nil c.2.1
      subst ea eb
      have la := ra.len
      have lb := rb.len
      exact .inr (.inr (.inr ⟨a, b, vs, ws, rfl, rfl, sa, sb, by omega, p.lst (g := []) (by simpa using Reps.append ra rb) (fun _ z => by cases z) .nil⟩))
    · cases hg
  · cases hg
theorem reps_flat (c : Array Nat) : ∀ (k : Nat) (acc : Array Nat), ((List.replicate k c).foldl (· ++ ·) acc) = acc ++ ((List.replicate k c.toList).flatten).toArray
  | 0, acc => by simp
  | k + 1, acc => by
    rw [List.replicate_succ, List.foldl_cons, reps_flat c k, List.replicate_succ, List.flatten_cons, Array.append_assoc]
    congr 1
    refine Array.ext' ?_
    simp
theorem mul_flat {x : Str} {n : Int} (h : 1 ≤ n) : Txt.mul x n = ⟨(List.replicate n.toNat x.cps.toList).flatten.toArray⟩ := by
  unfold Txt.mul
  rw [if_neg (by omega)]
  split
  · rename_i hc
    rw [Bool.or_eq_true, beq_iff_eq, beq_iff_eq] at hc
    rcases hc with h | h
    · subst h
      show x = ⟨((List.replicate 1 x.cps.toList).flatten).toArray⟩
      cases x; simp
    · cases x with
      | mk c =>
        have e : c = #[] := Array.eq_empty_of_size_eq_zero h
        subst e
        have : ∀ k : Nat, (List.replicate k ([] : List Nat)).flatten = [] := fun k => by induction k with | zero => rfl | succ k ih => rw [List.replicate_succ, List.flatten_cons, ih]; rfl
        simp [this]
  · rw [reps_flat]; simp
def rMulS : R2 := fun x y H Q => ∃ a n, x = .str a ∧ y = .int n ∧ 1 ≤ n ∧ n ≤ 16777216 ∧ a.length * n.toNat ≤ 16777216 ∧ Q (.str ⟨(List.replicate n.toNat a.cps.toList).flatten.toArray⟩) H
theorem op_mulS {X : Cx} : OpR X (binaryOp .Mult) rMulS := by
  intro pins s σ H x y v u Q I rx ry h
  obtain ⟨a, n, rfl, rfl, h1, h2, h3, q⟩ := h
  obtain ⟨t, rfl⟩ := rx
  obtain ⟨t2, rfl⟩ := ry
  refine SB.mul (PyProof.Rows.mulOk_of a.length n.toNat (Nat.le_refl _) (by omega) (by omega) (by omega) h3) fun t' k => ?_
  rw [mul_flat h1]
  exact ⟨.str _, H, I.tok k, ⟨_, rfl⟩, q⟩
def opServed : Operator → Bool
  | .MatMult => false
  | .Div => false
  | _ => true
theorem op_all {X : Cx} (op : Operator) (h : opServed op = true) : ∃ r, OpR X (binaryOp op) r ∧ OpOkL X.K (f2 (binT op)) (rr r) := by
  cases op with
  | Add => exact ⟨_, op_add.or (op_add_str.or (op_catA.or op_cat)), ok_add⟩
  | Sub => exact ⟨_, op_sub, ok_ints0 fun s t u hg => by simp only [binT, subT] at hg; split at hg <;> cases hg; exact ⟨_, _, rfl, rfl, rfl⟩⟩
  | Mult =>
    refine ⟨_, op_mul.or op_mulS, ok2 fun H s t u x y fx fy hg rx ry Q p => ?_⟩
    simp only [binT, mulT] at hg
    split at hg
    · split at hg
      · rename_i c
        cases hg
        obtain ⟨rfl, _⟩ := rx
        obtain ⟨rfl, _⟩ := ry
        exact .inl ⟨_, _, rfl, rfl, c, p.v ⟨rfl, rfl⟩⟩
      · cases hg
    · split at hg
      · rename_i c
        cases hg
        obtain ⟨rfl, _⟩ := rx
        obtain ⟨rfl, _⟩ := ry
        exact .inr ⟨_, _, rfl, rfl, c.1, c.2.1, c.2.2, p.v ⟨rfl, rfl⟩⟩
      · cases hg
    · cases hg
  | Mod =>
    refine ⟨_, op_mod, ok_ints fun s t u hg => ?_⟩
    simp only [binT, modT] at hg
    split at hg
    · split at hg
      · rename_i c; cases hg; exact ⟨_, _, rfl, rfl, c, rfl⟩
      · cases hg
    · cases hg
  | FloorDiv =>
    refine ⟨_, op_fdiv, ok_ints fun s t u hg => ?_⟩
    simp only [binT, divT] at hg
    split at hg
    · split at hg
      · rename_i c; cases hg; exact ⟨_, _, rfl, rfl, c, rfl⟩
      · cases hg
    · cases hg
  | Pow =>
    refine ⟨_, op_pow, ok_ints fun s t u hg => ?_⟩
    simp only [binT, powT] at hg
    split at hg
    · split at hg
      · rename_i c; cases hg; exact ⟨_, _, rfl, rfl, c, rfl⟩
      · cases hg
    · cases hg
  | LShift =>
    refine ⟨_, op_shl, ok_ints fun s t u hg => ?_⟩
    simp only [binT, shlT] at hg
    split at hg
    · split at hg
      · rename_i c; cases hg; exact ⟨_, _, rfl, rfl, c, rfl⟩
      · cases hg
    · cases hg
  | RShift =>
    refine ⟨_, op_shr, ok_ints fun s t u hg => ?_⟩
    simp only [binT, shrT] at hg
    split at hg
    · split at hg
      · rename_i c; cases hg; exact ⟨_, _, rfl, rfl, c, rfl⟩
      · cases hg
    · cases hg
  | BitAnd => exact ⟨_, op_and, ok_ints0 fun s t u hg => by simp only [binT, andT] at hg; split at hg <;> cases hg; exact ⟨_, _, rfl, rfl, rfl⟩⟩
  | BitOr => exact ⟨_, op_or, ok_ints0 fun s t u hg => by simp only [binT, orT] at hg; split at hg <;> cases hg; exact ⟨_, _, rfl, rfl, rfl⟩⟩
  | BitXor => exact ⟨_, op_xor, ok_ints0 fun s t u hg => by simp only [binT, xorT] at hg; split at hg <;> cases hg; exact ⟨_, _, rfl, rfl, rfl⟩⟩
  | MatMult => cases h
  | Div => cases h
def eBin (op : Operator) (a b : Ex) : Ex where
  sem := opSem [a.sem, b.sem] (f2 (binT op))
  m := fun N sc cm e => match e with
    | .BinOp x o y _ => decide (o = op) && (opServed op && (a.m N sc cm x && b.m N sc cm y))
    | _ => false
  pre := fun Γ k => a.pre Γ k ∧ b.pre Γ k
  snd := fun {X xi N sc lvl cm W x} g p h => by
    cases x <;> first | cases h | skip
    simp only [Bool.and_eq_true, decide_eq_true_eq] at h
    obtain ⟨rfl, h1, h2, h3⟩ := h
    obtain ⟨r, hr, ok⟩ := op_all (X := X) _ h1
    exact PE.to (pe_op hr (a.snd g p.1 h2) (b.snd g p.2 h3)) fun σ H Q hq => op_to ok hq

/-- -a, ~a -/
def negT : T → Option T
  | .int i => some (.int (-i))
  | _ => none
def ru (r : V → Hp → VK → Prop) : List V → Hp → VK → Prop
  | [x], H, Q => r x H Q
  | _, _, _ => False
def eNeg (a : Ex) : Ex where
  sem := opSem [a.sem] (f1 negT)
  m := fun N sc cm e => match e with
    | .UnaryOp .USub x _ => a.m N sc cm x
    | _ => false
  pre := fun Γ k => a.pre Γ k
  snd := fun {X xi N sc lvl cm W x} g p h => by
    cases x <;> first | cases h | skip
    rename_i op x _
    cases op <;> first | cases h | skip
    refine PE.to (pe_un un_neg (a.snd g p h)) fun σ H Q hq => op_to (r := ru (rU fun i => .int (-i))) (ok1 fun H s u x fx hg rx Q p => ?_) hq
    unfold negT at hg
    split at hg <;> cases hg
    obtain ⟨rfl, _⟩ := rx
    exact ⟨_, rfl, p.v ⟨rfl, rfl⟩⟩
end Pv
set_option Elab.async false
set_option linter.all false
set_option maxRecDepth 100000
set_option maxHeartbeats 2000000
/-! Pv part D: comparisons, tests, items, slices, displays. -/
namespace Pv
open PySem L2

mutual
def T.toD : T → PyData
  | .non => .none
  | .bl b => .bool b
  | .int i => .int i
  | .str s => .str s
  | .tup ts => .tuple (T.toDs ts)
  | .lst ts => .list (T.toDs ts)
  | .fro ns => .list (ns.map .int)
  | .box => .dict []
  | .dct _ _ _ => .dict []
  | .obj _ _ _ => .dict []
  | .mob _ _ _ => .dict []
def T.toDs : List T → List PyData
  | [] => []
  | t :: ts => t.toD :: T.toDs ts
end
theorem toDs_map : ∀ ts : List T, T.toDs ts = ts.map T.toD
  | [] => rfl
  | t :: ts => by simp only [T.toDs, List.map_cons, toDs_map ts]
theorem dp_ints {K : PySem.W.Frag} {H : Hp} : ∀ ns : List Int, DpAll K H (ns.map .int) (ns.map .int)
  | [] => .nil
  | n :: ns => .cons (.int n) (dp_ints ns)
mutual
theorem rep_dp {K : PySem.W.Frag} {H : Hp} : ∀ {t : T} {v : V} {f : List Addr}, Rep K H t v f → PyData.canLay0 t.toD = true → Dp K H v t.toD
  | .non, _, _, h, _ => by rw [h.1]; exact .non
  | .bl b, _, _, h, _ => by rw [h.1]; exact .bl b
  | .int i, _, _, h, _ => by rw [h.1]; exact .int i
  | .str s, _, _, h, _ => by rw [h.1]; exact .str s
  | .tup ts, _, _, h, c => by
    obtain ⟨a, vs, rfl, s, r⟩ := h
    exact .tup (SqT.of s) (reps_dp r c)
  | .lst ts, _, _, h, c => by
    obtain ⟨a, vs, g, rfl, _, s, r⟩ := h
    exact .lst (SqL.of s) (reps_dp r c)
  | .box, _, _, _, c => by cases c
  | .dct _ _ _, _, _, _, c => by cases c
  | .obj _ _ _, _, _, _, c => by cases c
  | .mob _ _ _, _, _, _, c => by cases c
  | .fro ns, _, _, h, _ => by
    obtain ⟨_, a, rfl, h⟩ := h
    rcases h with ⟨o, h⟩ | h
    · exact .lst (.inl (.inr ⟨o, h⟩)) (dp_ints ns)
    · exact .lst (h H) (dp_ints ns)
theorem reps_dp {K : PySem.W.Frag} {H : Hp} : ∀ {ts : List T} {vs : List V} {f : List Addr}, Reps K H ts vs f → PyData.canLayAll0 (T.toDs ts) = true → DpAll K H vs (T.toDs ts)
  | [], _, _, h, _ => by rw [h.1]; exact .nil
  | t :: ts, _, _, h, c => by
    obtain ⟨v, ws, f1, f2, rfl, rfl, h1, h2⟩ := h
    have c' : (PyData.canLay0 t.toD && PyData.canLayAll0 (T.toDs ts)) = true := c
    rw [Bool.and_eq_true] at c'
    exact .cons (rep_dp h1 c'.1) (reps_dp h2 c'.2)
end

/-- == of trees, where Python can say it -/
def eqT (s t : T) : Option Bool := if SeqAt.shaped s.toD = true ∧ SeqAt.shaped t.toD = true then some (PyData.eqv s.toD t.toD) else none
/-! ### keys of dicts -/
def key? : T → Option Key
  | .int i => some (.inl i)
  | .str x => some (.inr x)
  | _ => none
def keyL? : List T → Option (List Key)
  | [] => some []
  | t :: ts => match key? t, keyL? ts with
    | some k, some ks => some (k :: ks)
    | _, _ => none
def dk? : Bool → T → Option (List Key)
  | false, s => (key? s).map fun k => [k]
  | true, .tup ts => keyL? ts
  | true, _ => none
/-- the place of a key -/
def dix (kd : Bool) (ks : List T) (k : List Key) : Option Nat := ks.findIdx? fun t => decide (dk? kd t = some k)
theorem key_rep {K : PySem.W.Frag} {H : Hp} {s : T} {k : Key} {v : V} {f : List Addr} (h : key? s = some k) (r : Rep K H s v f) : v = kV k := by
  cases s <;> cases h
  · exact r.1
  · exact r.1
theorem keyL_reps {K : PySem.W.Frag} {H : Hp} : ∀ {ts : List T} {k : List Key} {vs : List V} {f : List Addr}, keyL? ts = some k → Reps K H ts vs f → vs = k.map kV
  | [], _, _, _, h, r => by cases h; exact r.1
  | t :: ts, k, _, _, h, r => by
    obtain ⟨v, ws, f1, f2, rfl, rfl, h1, h2⟩ := r
    simp only [keyL?] at h
    cases e1 : key? t with
    | none => rw [e1] at h; cases h
    | some a =>
      cases e2 : keyL? ts with
      | none => rw [e1, e2] at h; cases h
      | some b =>
        rw [e1, e2] at h
        cases h
        rw [key_rep e1 h1, keyL_reps e2 h2]; rfl
theorem key_keyT (k : Key) : key? (keyT k) = some k := by cases k <;> rfl
theorem keyL_keyT : ∀ ks : List Key, keyL? (ks.map keyT) = some ks
  | [] => rfl
  | k :: ks => by simp only [List.map_cons, keyL?, key_keyT, keyL_keyT ks]
theorem find_idx {κ : Type} [DecidableEq κ] (k : κ) : ∀ (kvs : List (κ × V)), valV kvs k = ((kvs.map (·.1)).findIdx? fun x => decide (x = k)).bind fun j => (kvs.map (·.2))[j]?
  | [] => rfl
  | (a, v) :: r => by
    by_cases h : a = k
    · subst h
      simp [valV, List.findIdx?_cons]
    · have ih := find_idx k r
      simp only [valV, List.find?_cons, List.map_cons, List.findIdx?_cons, decide_eq_false h, Bool.false_eq_true, if_false] at ih ⊢
      rw [ih]
      cases (r.map (·.1)).findIdx? (fun x => decide (x = k)) <;> simp
theorem dget_rep {K : PySem.W.Frag} {H : Hp} {a : Addr} {kd : Bool} {ks : List T} {ws : List V} {s : T} {k : List Key} {y : V} {f : List Addr} (d : DicAt H a kd ks ws) (hk : dk? kd s = some k) (r : Rep K H s y f) :
    DGet H a y ((dix kd ks k).bind fun j => ws[j]?) := by
  cases kd with
  | false =>
    obtain ⟨kvs, e, rfl, rfl⟩ := d
    simp only [dk?] at hk
    cases e1 : key? s with
    | none => rw [e1] at hk; cases hk
    | some k0 =>
      rw [e1] at hk
      cases hk
      refine .inl ⟨kvs, k0, .inl e, key_rep e1 r, ?_⟩
      rw [find_idx]
      unfold dix
      rw [List.findIdx?_map, List.findIdx?_map]
      have : ((fun t => decide (dk? false t = some [k0])) ∘ fun (p : Key × V) => keyT p.1) = ((fun x => decide (x = k0)) ∘ fun (p : Key × V) => p.1) := by
        funext p
        simp only [Function.comp_apply, dk?, key_keyT, Option.map_some, Option.some.injEq, List.cons.injEq, and_true]
      rw [this]
  | true =>
    obtain ⟨kvs, e, rfl, rfl⟩ := d
    cases s <;> first | (simp [dk?] at hk; done) | skip
    simp only [dk?] at hk
    obtain ⟨b, vs, rfl, hb, rs⟩ := r
    rw [keyL_reps hk rs] at hb
    refine .inr ⟨kvs, k, b, .inl e, rfl, hb, ?_⟩
    rw [find_idx]
    unfold dix
    rw [List.findIdx?_map, List.findIdx?_map]
    have : ((fun t => decide (dk? true t = some k)) ∘ fun (p : List Key × V) => T.tup (p.1.map keyT)) = ((fun x => decide (x = k)) ∘ fun (p : List Key × V) => p.1) := by
      funext p
      simp only [Function.comp_apply, dk?, keyL_keyT, Option.some.injEq]
    rw [this]
theorem dic_len {H : Hp} {a : Addr} {kd : Bool} {ks : List T} {ws : List V} (d : DicAt H a kd ks ws) : ws.length = ks.length := by
  cases kd with
  | false => obtain ⟨kvs, e, rfl, rfl⟩ := d; simp
  | true => obtain ⟨kvs, e, rfl, rfl⟩ := d; simp
theorem dix_lt {kd : Bool} {ks : List T} {k : List Key} {j : Nat} (h : dix kd ks k = some j) : j < ks.length := by
  unfold dix at h
  exact (List.findIdx?_eq_some_iff_getElem.mp h).1
def rDic (f : Bool → Bool) : R2 := fun y x H Q => ∃ a o, x = .ref a ∧ DGet H a y o ∧ Q (.bl (f o.isSome)) H
theorem op_inDic {X : Cx} (hu : X.A.units + 65 < cLine) : OpR X (compareOp .In) (rDic id) := by
  intro pins s σ H x y v u Q I rx ry ⟨a, o, e, g, q⟩
  subst e
  obtain rfl : u = Value.ref a := ry
  exact d_in (by omega) I g rx fun s3 I3 => ⟨.bl o.isSome, H, I3, rfl, q⟩
theorem op_notInDic {X : Cx} (hu : X.A.units + 65 < cLine) : OpR X (compareOp .NotIn) (rDic not) := by
  intro pins s σ H x y v u Q I rx ry ⟨a, o, e, g, q⟩
  subst e
  obtain rfl : u = Value.ref a := ry
  exact d_notIn (by omega) I g rx fun s3 I3 => ⟨.bl (!o.isSome), H, I3, rfl, q⟩
def inT (s t : T) : Option Bool := match s, t with
  | .str x, .str z => match x.cps.toList with
    | [c] => some (decide (c ∈ z.cps.toList))
    | _ => none
  | s, .lst ts => if SeqAt.shaped s.toD = true ∧ SeqAt.shaped (T.lst ts).toD = true then some ((T.toDs ts).any fun z => PyData.eqv z s.toD) else none
  | s, .tup ts => if SeqAt.shaped s.toD = true ∧ SeqAt.shaped (T.tup ts).toD = true then some ((T.toDs ts).any fun z => PyData.eqv z s.toD) else none
  | s, .dct kd ks _ => match dk? kd s with
    | some k => some (dix kd ks k).isSome
    | none => none
  | _, _ => none
def isNon : T → Bool
  | .non => true
  | _ => false
def ltT : T → T → Option Bool
  | .int i, .int j => some (decide (i < j))
  | .str x, .str y => some (decide (x.cps.toList < y.cps.toList))
  | _, _ => none
def leT : T → T → Option Bool
  | .int i, .int j => some (decide (i ≤ j))
  | .str x, .str y => some (!decide (y.cps.toList < x.cps.toList))
  | _, _ => none
def cmpT : CmpOp → T → T → Option Bool
  | .Eq, s, t => eqT s t
  | .NotEq, s, t => (eqT s t).map (!·)
  | .Lt, s, t => ltT s t
  | .LtE, s, t => leT s t
  | .Gt, .int i, .int j => some (decide (j < i))
  | .GtE, .int i, .int j => some (decide (j ≤ i))
  | .Is, s, .non => some (isNon s)
  | .IsNot, s, .non => some (!isNon s)
  | .Is, .bl a, .bl b => some (decide (a = b))
  | .IsNot, .bl a, .bl b => some (!decide (a = b))
  | .In, s, t => inT s t
  | .NotIn, s, t => (inT s t).map (!·)
  | _, _, _ => none
def cmpV (op : CmpOp) (s t : T) : Option T := (cmpT op s t).map .bl

def rInDT (K : PySem.W.Frag) : R2 := fun x y H Q => ∃ d ds, Dp K H x d ∧ Dp K H y (.tuple ds) ∧ SeqAt.shaped d = true ∧ SeqAt.shaped (.tuple ds) = true ∧ Q (.bl (ds.any fun z => PyData.eqv z d)) H
def rNotInDT (K : PySem.W.Frag) : R2 := fun x y H Q => ∃ d ds, Dp K H x d ∧ Dp K H y (.tuple ds) ∧ SeqAt.shaped d = true ∧ SeqAt.shaped (.tuple ds) = true ∧ Q (.bl (!ds.any fun z => PyData.eqv z d)) H
theorem room_inT {A : Around} {d : PyData} {ds : List PyData} (sd : SeqAt.shaped d = true) (hu : A.units + 65 < cLine) : A.units + 1 + min (PyData.depthAll ds) d.depth < cLine := by
  have h1 := SeqAt.depth_of_shaped sd
  have h2 : min (PyData.depthAll ds) d.depth ≤ d.depth := Nat.min_le_right _ _
  omega
theorem op_inDT {X : Cx} (hu : X.A.units + 65 < cLine) : OpR X (compareOp .In) (rInDT X.K) := by
  intro pins s σ H x y v u Q I rx ry ⟨d, ds, hd, he, sd, se, q⟩
  obtain ⟨as, r1⟩ := Dp.reads I d x v hd rx
  obtain ⟨bs, r2⟩ := Dp.reads I (.tuple ds) y u he ry
  exact SeqAt.in_tuple_reads r2 r1 (SeqAt.canLay_of_shaped se) (SeqAt.canLay_of_shaped sd) (room_inT sd hu) ⟨.bl _, H, I, rfl, q⟩
theorem op_notInDT {X : Cx} (hu : X.A.units + 65 < cLine) : OpR X (compareOp .NotIn) (rNotInDT X.K) := by
  intro pins s σ H x y v u Q I rx ry ⟨d, ds, hd, he, sd, se, q⟩
  obtain ⟨as, r1⟩ := Dp.reads I d x v hd rx
  obtain ⟨bs, r2⟩ := Dp.reads I (.tuple ds) y u he ry
  exact SeqAt.notIn_tuple_reads r2 r1 (SeqAt.canLay_of_shaped se) (SeqAt.canLay_of_shaped sd) (room_inT sd hu) ⟨.bl _, H, I, rfl, q⟩
theorem op_leS {X : Cx} : OpR X (compareOp .LtE) (fun x y H Q => ∃ i j, x = .str i ∧ y = .str j ∧ Q (.bl (!decide (j.cps.toList < i.cps.toList))) H) := by
  intro pins s σ H x y v u Q I rx ry h
  obtain ⟨i, j, rfl, rfl, q⟩ := h
  obtain ⟨t, rfl⟩ := rx
  obtain ⟨t', rfl⟩ := ry
  exact PySem.P.le_str (fin_bl I q rfl)
theorem non_iff {K : PySem.W.Frag} {H : Hp} {t : T} {v : V} {f : List Addr} (h : Rep K H t v f) : decide (v = .non) = isNon t := by
  cases t with
  | non => rw [h.1]; rfl
  | bl b => rw [h.1]; rfl
  | int b => rw [h.1]; rfl
  | str b => rw [h.1]; rfl
  | tup ts => obtain ⟨a, vs, rfl, _⟩ := h; rfl
  | lst ts => obtain ⟨a, vs, g, rfl, _⟩ := h; rfl
  | fro ts => obtain ⟨_, a, rfl, _⟩ := h; rfl
  | box => obtain ⟨_, a, rfl⟩ := h; rfl
  | dct kd ks ts => obtain ⟨a, ws, g, rfl, _⟩ := h; rfl
  | obj cn ns ts => obtain ⟨a, C, dx, ws, rfl, _⟩ := h; rfl
  | mob cn ns ts => obtain ⟨a, C, dx, ws, g, rfl, _⟩ := h; rfl
theorem str_one {x : Str} {c : Nat} (h : x.cps.toList = [c]) : x = ⟨#[c]⟩ := by
  cases x with
  | mk a => simp only at h; congr; exact Array.ext' (by simpa using h)

theorem op_cmp {X : Cx} (hu : X.A.units + 100 < cLine) (op : CmpOp) : ∃ r, OpR X (compareOp op) r ∧ OpOkL X.K (f2 (cmpV op)) (rr r) := by
  have u1 : X.A.units + 64 < cLine := by omega
  have u2 : X.A.units + 65 < cLine := by omega
  cases op with
  | Eq =>
    refine ⟨_, op_eqD u1, ok2 fun H s t u x y fx fy hg rx ry Q p => ?_⟩
    simp only [cmpV, cmpT, eqT] at hg
    split at hg
    · rename_i c
      cases hg
      exact ⟨_, _, rep_dp rx (SeqAt.canLay_of_shaped c.1), rep_dp ry (SeqAt.canLay_of_shaped c.2), c.1, c.2, p.v ⟨rfl, rfl⟩⟩
    · cases hg
  | NotEq =>
    refine ⟨_, op_neD u1, ok2 fun H s t u x y fx fy hg rx ry Q p => ?_⟩
    simp only [cmpV, cmpT, eqT] at hg
    split at hg
    · rename_i c
      cases hg
      exact ⟨_, _, rep_dp rx (SeqAt.canLay_of_shaped c.1), rep_dp ry (SeqAt.canLay_of_shaped c.2), c.1, c.2, p.v ⟨rfl, rfl⟩⟩
    · cases hg
  | Lt =>
    refine ⟨_, op_lt.or op_lt_str, ok2 fun H s t u x y fx fy hg rx ry Q p => ?_⟩
    simp only [cmpV, cmpT, ltT] at hg
    split at hg
    · cases hg
      obtain ⟨rfl, _⟩ := rx
      obtain ⟨rfl, _⟩ := ry
      exact .inl ⟨_, _, rfl, rfl, p.v ⟨rfl, rfl⟩⟩
    · cases hg
      obtain ⟨rfl, _⟩ := rx
      obtain ⟨rfl, _⟩ := ry
      exact .inr ⟨_, _, rfl, rfl, p.v ⟨rfl, rfl⟩⟩
    · cases hg
  | LtE =>
    refine ⟨_, op_le.or op_leS, ok2 fun H s t u x y fx fy hg rx ry Q p => ?_⟩
    simp only [cmpV, cmpT, leT] at hg
    split at hg
    · cases hg
      obtain ⟨rfl, _⟩ := rx
      obtain ⟨rfl, _⟩ := ry
      exact .inl ⟨_, _, rfl, rfl, p.v ⟨rfl, rfl⟩⟩
    · cases hg
      obtain ⟨rfl, _⟩ := rx
      obtain ⟨rfl, _⟩ := ry
      exact .inr ⟨_, _, rfl, rfl, p.v ⟨rfl, rfl⟩⟩
    · cases hg
  | Gt =>
    refine ⟨_, op_gt, ok2 fun H s t u x y fx fy hg rx ry Q p => ?_⟩
    cases s <;> cases t <;> first | (simp [cmpV, cmpT] at hg; done) | skip
    simp only [cmpV, cmpT, Option.map_some, Option.some.injEq] at hg
    subst hg
    obtain ⟨rfl, _⟩ := rx
    obtain ⟨rfl, _⟩ := ry
    exact ⟨_, _, rfl, rfl, p.v ⟨rfl, rfl⟩⟩
  | GtE =>
    refine ⟨_, op_ge, ok2 fun H s t u x y fx fy hg rx ry Q p => ?_⟩
    cases s <;> cases t <;> first | (simp [cmpV, cmpT] at hg; done) | skip
    simp only [cmpV, cmpT, Option.map_some, Option.some.injEq] at hg
    subst hg
    obtain ⟨rfl, _⟩ := rx
    obtain ⟨rfl, _⟩ := ry
    exact ⟨_, _, rfl, rfl, p.v ⟨rfl, rfl⟩⟩
  | Is =>
    refine ⟨_, op_isN.or op_is_bl, ok2 fun H s t u x y fx fy hg rx ry Q p => ?_⟩
    cases t <;> first | (simp [cmpV, cmpT] at hg; done) | skip
    · simp only [cmpV, cmpT, Option.map_some, Option.some.injEq] at hg
      subst hg
      exact .inl ⟨ry.1, p.v ⟨by rw [non_iff rx], rfl⟩⟩
    · cases s <;> first | (simp [cmpV, cmpT] at hg; done) | skip
      simp only [cmpV, cmpT, Option.map_some, Option.some.injEq] at hg
      subst hg
      obtain ⟨rfl, _⟩ := rx
      obtain ⟨rfl, _⟩ := ry
      exact .inr ⟨_, _, rfl, rfl, p.v ⟨rfl, rfl⟩⟩
  | IsNot =>
    refine ⟨_, op_notN.or op_isnot_bl, ok2 fun H s t u x y fx fy hg rx ry Q p => ?_⟩
    cases t <;> first | (simp [cmpV, cmpT] at hg; done) | skip
    · simp only [cmpV, cmpT, Option.map_some, Option.some.injEq] at hg
      subst hg
      exact .inl ⟨ry.1, p.v ⟨by rw [non_iff rx], rfl⟩⟩
    · cases s <;> first | (simp [cmpV, cmpT] at hg; done) | skip
      simp only [cmpV, cmpT, Option.map_some, Option.some.injEq] at hg
      subst hg
      obtain ⟨rfl, _⟩ := rx
      obtain ⟨rfl, _⟩ := ry
      exact .inr ⟨_, _, rfl, rfl, p.v ⟨rfl, rfl⟩⟩
  | In =>
    refine ⟨_, (((op_inD u2).or (op_inDT u2)).or (op_inDic u2)).or op_in_sign, ok2 fun H s t u x y fx fy hg rx ry Q p => ?_⟩
    simp only [cmpV, cmpT, inT] at hg
    split at hg
    · split at hg
      · rename_i e
        cases hg
        obtain ⟨rfl, _⟩ := rx
        obtain ⟨rfl, _⟩ := ry
        exact .inr ⟨_, _, by rw [str_one e], rfl, p.v ⟨rfl, rfl⟩⟩
      · cases hg
    · split at hg
      · rename_i c
        cases hg
        exact .inl (.inl (.inl ⟨_, _, rep_dp rx (SeqAt.canLay_of_shaped c.1), rep_dp ry (SeqAt.canLay_of_shaped c.2), c.1, c.2, p.v ⟨rfl, rfl⟩⟩))
      · cases hg
    · split at hg
      · rename_i c
        cases hg
        exact .inl (.inl (.inr ⟨_, _, rep_dp rx (SeqAt.canLay_of_shaped c.1), rep_dp ry (SeqAt.canLay_of_shaped c.2), c.1, c.2, p.v ⟨rfl, rfl⟩⟩))
      · cases hg
    · split at hg
      · rename_i ek
        cases hg
        obtain ⟨a, ws, g, rfl, _, d, r⟩ := ry
        refine .inl (.inr ⟨a, _, rfl, dget_rep d ek rx, ?_⟩)
        refine p.v ⟨?_, rfl⟩
        congr 1
        cases hj : dix _ _ _ with
        | none => rfl
        | some j =>
          have := dix_lt hj
          rw [Option.bind_some, List.getElem?_eq_getElem (by rw [dic_len d]; exact this)]
          rfl
      · cases hg
    · cases hg
  | NotIn =>
    refine ⟨_, (((op_notInD u2).or (op_notInDT u2)).or (op_notInDic u2)).or op_notIn_sign, ok2 fun H s t u x y fx fy hg rx ry Q p => ?_⟩
    simp only [cmpV, cmpT, inT] at hg
    split at hg
    · split at hg
      · rename_i e
        cases hg
        obtain ⟨rfl, _⟩ := rx
        obtain ⟨rfl, _⟩ := ry
        exact .inr ⟨_, _, by rw [str_one e], rfl, p.v ⟨rfl, rfl⟩⟩
      · cases hg
    · split at hg
      · rename_i c
        cases hg
        exact .inl (.inl (.inl ⟨_, _, rep_dp rx (SeqAt.canLay_of_shaped c.1), rep_dp ry (SeqAt.canLay_of_shaped c.2), c.1, c.2, p.v ⟨rfl, rfl⟩⟩))
      · cases hg
    · split at hg
      · rename_i c
        cases hg
        exact .inl (.inl (.inr ⟨_, _, rep_dp rx (SeqAt.canLay_of_shaped c.1), rep_dp ry (SeqAt.canLay_of_shaped c.2), c.1, c.2, p.v ⟨rfl, rfl⟩⟩))
      · cases hg
    · split at hg
      · rename_i ek
        cases hg
        obtain ⟨a, ws, g, rfl, _, d, r⟩ := ry
        refine .inl (.inr ⟨a, _, rfl, dget_rep d ek rx, ?_⟩)
        refine p.v ⟨?_, rfl⟩
        congr 1
        cases hj : dix _ _ _ with
        | none => rfl
        | some j =>
          have := dix_lt hj
          rw [Option.bind_some, List.getElem?_eq_getElem (by rw [dic_len d]; exact this)]
          rfl
      · cases hg
    · cases hg

def notSet : Expr → Bool
  | .Set _ _ _ => false
  | _ => true
theorem bim_of {op : CmpOp} {x : Expr} (h : notSet x = true) : behindInMarks op x = false := by
  cases x <;> first | rfl | cases h
def cmpM (a b : Ex) (op : CmpOp) (N : List Str) (sc : Scope) (cm : Bool) : Expr → Bool
  | .Compare x [o] [y] _ => decide (o = op) && (notSet y && (a.m N sc cm x && b.m N sc cm y))
  | _ => false
def eCmp (op : CmpOp) (a b : Ex) : Ex where
  sem := opSem [a.sem, b.sem] (f2 (cmpV op))
  m := cmpM a b op
  pre := fun Γ k => a.pre Γ k ∧ b.pre Γ k
  snd := fun {X xi N sc lvl cm W x} g p h => by
    unfold cmpM at h
    split at h
    · simp only [Bool.and_eq_true, decide_eq_true_eq] at h
      obtain ⟨rfl, h1, h2, h3⟩ := h
      obtain ⟨r, hr, ok⟩ := op_cmp (X := X) g.un _
      exact PE.to (pe_cmpR hr (a.snd g p.1 h2) (b.snd g p.2 h3) (bim_of h1)) fun σ H Q hq => op_to ok hq
    · cases h
/-- the truth of what is True or False -/
def boolSem (s : Rho → R) : Rho → RB := fun ρ => match s ρ with
  | .ok (.v (.bl b)) ρ' τ => .ok b ρ' τ
  | .ok _ _ _ => .stuck
  | .ex c t ρ' => .ex c t ρ'
  | .stuck => .stuck
theorem bool_to {K : PySem.W.Frag} {xi : XI} {W : WX} {s : Rho → R} {σ : L2.St} {H : Hp} {Q : Bool → Hp → Prop} (h : tT K xi W (boolSem s) σ H Q) : tE K xi W s σ H fun x H' => ∃ k, x = .bl k ∧ Q k H' := by
  obtain ⟨ρ, fp, e, h⟩ := h
  refine ⟨ρ, fp, e, ?_⟩
  simp only [boolSem] at h
  cases hs : s ρ with
  | stuck => rw [hs] at h; exact h.elim
  | ex c t ρ' => rw [hs] at h; exact h
  | ok o ρ' τ =>
    rw [hs] at h
    cases o with
    | p i path => exact h.elim
    | v t =>
      cases t <;> first | exact (show False from h).elim | skip
      intro v H' fp' fo e' s' q' r'
      exact ⟨_, r'.1, h H' fp' e' s'.drop q'⟩
def bCmp (op : CmpOp) (a b : Ex) : Bx where
  sem := boolSem (opSem [a.sem, b.sem] (f2 (cmpV op)))
  m := cmpM a b op
  pre := fun Γ k => a.pre Γ k ∧ b.pre Γ k
  snd := fun {X xi N sc lvl cm W x} g p h => by
    unfold cmpM at h
    split at h
    · simp only [Bool.and_eq_true, decide_eq_true_eq] at h
      obtain ⟨rfl, h1, h2, h3⟩ := h
      obtain ⟨r, hr, ok⟩ := op_cmp (X := X) g.un _
      exact PT.to (pt_cmpR hr (a.snd g p.1 h2) (b.snd g p.2 h3) (bim_of h1)) fun σ H Q hq => op_to ok (bool_to hq)
    · cases h
/-- a < b < c, three plain things -/
def chainSem (op op' : CmpOp) (sa sb sc : Rho → R) : Rho → RB := fun ρ => match sa ρ with
  | .ok (.v s) ρ1 false => match sb ρ1 with
    | .ok (.v t) ρ2 false => match s.imm && t.imm, cmpT op s t with
      | true, some true => match sc ρ2 with
        | .ok (.v u) ρ3 false => match u.imm, cmpT op' t u with
          | true, some b => .ok b ρ3 false
          | _, _ => .stuck
        | _ => .stuck
      | true, some false => .ok false ρ2 false
      | _, _ => .stuck
    | _ => .stuck
  | _ => .stuck
theorem cmp_use {K : PySem.W.Frag} {op : CmpOp} {r : R2} {H : Hp} {s t : T} {x y : V} {k : Bool} {Q : V → Hp → Prop} {ρ : Rho} {fp : Fp} {σ : L2.St} (ok : OpOkL K (f2 (cmpV op)) (rr r)) (e : Env K ρ fp σ H) (rx : Rep K H s x []) (ry : Rep K H t y [])
    (ec : cmpT op s t = some k) (qq : ∀ H', (∀ a o, H a = some o → H' a = some o) → Q (.bl k) H') : r x y H Q := by
  refine ok ρ fp σ H [.v s, .v t] [x, y] [] (.bl k) e ⟨x, [y], [], [], rfl, rfl, rx, y, [], [], [], rfl, rfl, ry, rfl, rfl⟩ .nil (by simp [f2, getO, cmpV, ec]) Q fun v H' fo' kk rv _ _ => ?_
  rw [rv.1]
  exact qq H' kk
def bChain (op op' : CmpOp) (a b c : Ex) : Bx where
  sem := chainSem op op' a.sem b.sem c.sem
  m := fun N sc cm e => match e with
    | .Compare x [o, o'] [y, z] _ => decide (o = op) && (decide (o' = op') && (notSet z && (a.m N sc cm x && (b.m N sc cm y && c.m N sc cm z))))
    | _ => false
  pre := fun Γ k => a.pre Γ k ∧ b.pre Γ k ∧ c.pre Γ k
  snd := fun {X xi N sc lvl cm W x} g p h => by
    split at h
    · simp only [Bool.and_eq_true, decide_eq_true_eq] at h
      obtain ⟨rfl, rfl, h1, h2, h3, h4⟩ := h
      rename_i x o o' y z _
      obtain ⟨r, hr, ok⟩ := op_cmp (X := X) g.un o
      obtain ⟨r', hr', ok'⟩ := op_cmp (X := X) g.un o'
      refine PT.to (pt_chain hr hr' (a.snd g p.1 h2) (b.snd g p.2.1 h3) (c.snd g p.2.2 h4) (bim_of h1)) fun σ H Q hq => ?_
      obtain ⟨ρ, fp, e, hq⟩ := hq
      simp only [chainSem] at hq
      split at hq
      case h_2 => exact hq.elim
      rename_i s ρ1 es
      split at hq
      case h_2 => exact hq.elim
      rename_i t ρ2 et
      refine ⟨ρ, fp, e, ?_⟩
      rw [es]
      intro v1 H1 fp1 fo1 e1 s1 q1 r1
      refine ⟨ρ1, fp1, e1, ?_⟩
      rw [et]
      intro v2 H2 fp2 fo2 e2 s2 q2 r2
      obtain ⟨p1, p2, k1⟩ := q1 rfl
      obtain ⟨p3, p4, k2⟩ := q2 rfl
      split at hq
      · rename_i eim c1
        simp only [Bool.and_eq_true] at eim
        split at hq
        case h_2 => exact hq.elim
        rename_i u ρ3 eu
        split at hq
        case h_2 => exact hq.elim
        rename_i b eiu ech
        have z1 := Rep.imm_nil (show Rep X.K H1 s v1 fo1 from r1) eim.1
        have z2 := Rep.imm_nil (show Rep X.K H2 t v2 fo2 from r2) eim.2
        subst z1 z2
        have r1' := Rep.ext k2 (show Rep X.K H1 s v1 [] from r1)
        refine cmp_use ok e2 r1' r2 c1 fun H3 kk => ⟨true, rfl, ?_⟩
        have s3 : Step fp H fp2 [] H3 := (s1.trans0 s2).trans0 (Step.ext kk)
        rw [if_pos rfl]
        refine ⟨ρ2, fp2, e2.ext kk, ?_⟩
        rw [eu]
        intro v3 H4 fp3 fo3 e4 s4 q4 r4
        have z3 := Rep.imm_nil (show Rep X.K H4 u v3 fo3 from r4) eiu
        subst z3
        obtain ⟨p5, p6, k3⟩ := q4 rfl
        refine cmp_use ok' e4 (Rep.ext (fun a o z => k3 a o (kk a o z)) (show Rep X.K H2 t v2 [] from r2)) r4 ech fun H5 k5 => ⟨b, rfl, ?_⟩
        exact hq H5 fp3 (e4.ext k5) ((s3.trans0 s4).trans0 (Step.ext k5)) fun _ => ⟨p5.trans (p3.trans p1), p6.trans (p4.trans p2), fun a o z => k5 a o (k3 a o (kk a o (k2 a o (k1 a o z))))⟩
      · rename_i eim c1
        simp only [Bool.and_eq_true] at eim
        have z1 := Rep.imm_nil (show Rep X.K H1 s v1 fo1 from r1) eim.1
        have z2 := Rep.imm_nil (show Rep X.K H2 t v2 fo2 from r2) eim.2
        subst z1 z2
        have r1' := Rep.ext k2 (show Rep X.K H1 s v1 [] from r1)
        refine cmp_use ok e2 r1' r2 c1 fun H3 kk => ⟨false, rfl, ?_⟩
        have s3 : Step fp H fp2 [] H3 := (s1.trans0 s2).trans0 (Step.ext kk)
        rw [if_neg Bool.false_ne_true]
        exact ⟨false, rfl, hq H3 fp2 (e2.ext kk) s3 fun _ => ⟨p3.trans p1, p4.trans p2, fun a o z => kk a o (k2 a o (k1 a o z))⟩⟩
      · exact hq.elim
    · cases h
end Pv
set_option Elab.async false
set_option linter.all false
set_option maxRecDepth 100000
set_option maxHeartbeats 2000000
/-! Pv part E: operations with an effect: calls, methods that change a list. -/
namespace Pv
open PySem L2

def O.slot : O → Option Nat
  | .p i _ => some i
  | _ => none
def slots (os : List O) : List Nat := os.filterMap O.slot
theorem slots_v {t : T} {os : List O} : slots (.v t :: os) = slots os := rfl
theorem slots_p {i : Nat} {q : List Nat} {os : List O} : slots (.p i q :: os) = i :: slots os := rfl
def getOs (ρ : Rho) : List O → Option (List T)
  | [] => some []
  | o :: os => match getO ρ o, getOs ρ os with
    | some t, some ts => some (t :: ts)
    | _, _ => none
/-- the arguments' trees behind the operation, written back to their places -/
def wb : List O → Rho → Rho → Option Rho
  | [], _, ρ => some ρ
  | .v _ :: os, _ :: rs, ρ => wb os rs ρ
  | .p i path :: os, r :: rs, ρ => match r with
    | some t' => match ρ[i]? with
      | some (some t) => wb os rs (ρ.set i (some (T.put t' t path)))
      | _ => none
    | none => match path with
      | [] => wb os rs (ρ.set i none)
      | _ => none
  | _ :: _, [], _ => none

inductive FR where
  | ok (r : T) (ρ : Rho) | ex (c : Nat) (t : T) (ρ : Rho) | stuck

theorem wb_at : ∀ {os : List O} {ρA ρ ρ2 : Rho}, (slots os).Nodup → wb os ρA ρ = some ρ2 → ρ2.length = ρ.length ∧ (∀ i, i ∉ slots os → ρ2[i]? = ρ[i]?) ∧
    ∀ (j i : Nat) (path : List Nat), os[j]? = some (.p i path) → ∃ r, ρA[j]? = some r ∧ ((∃ t' t0, r = some t' ∧ ρ[i]? = some (some t0) ∧ ρ2[i]? = some (some (T.put t' t0 path))) ∨ (r = none ∧ path = [] ∧ ∀ t, ρ2[i]? ≠ some (some t)))
  | [], ρA, ρ, ρ2, _, h => by
    cases h
    exact ⟨rfl, fun _ _ => rfl, fun j i path e => by simp at e⟩
  | .v t :: os, [], ρ, ρ2, _, h => by simp [wb] at h
  | .p i path :: os, [], ρ, ρ2, _, h => by simp [wb] at h
  | .v t :: os, r :: ρA, ρ, ρ2, nd, h => by
    simp only [wb] at h
    obtain ⟨h1, h2, h3⟩ := wb_at (os := os) (slots_v ▸ nd) h
    refine ⟨h1, fun i hi => h2 i (by simpa [slots, O.slot] using hi), fun j i path e => ?_⟩
    cases j with
    | zero => simp at e
    | succ j => simpa using h3 j i path (by simpa using e)
  | .p i path :: os, r :: ρA, ρ, ρ2, nd, h => by
    have nd' : i ∉ slots os ∧ (slots os).Nodup := by simpa [slots, O.slot] using nd
    have mem : ∀ k : Nat, k ∉ slots (.p i path :: os) → k ≠ i ∧ k ∉ slots os := fun k hk => by simpa [slots, O.slot] using hk
    have inS : ∀ (j k : Nat) (q : List Nat), os[j]? = some (O.p k q) → k ∈ slots os := fun j k q e => List.mem_filterMap.mpr ⟨_, List.mem_of_getElem? e, rfl⟩
    have fin : ∀ (x : Option T), wb os ρA (ρ.set i x) = some ρ2 → i < ρ.length ∨ (∀ t, x ≠ some t) → ((∃ t' t0, r = some t' ∧ ρ[i]? = some (some t0) ∧ x = some (T.put t' t0 path)) ∨ (r = none ∧ path = [] ∧ x = none)) →
        ρ2.length = ρ.length ∧ (∀ k, k ∉ slots (.p i path :: os) → ρ2[k]? = ρ[k]?) ∧
        ∀ (j k : Nat) (q : List Nat), (O.p i path :: os)[j]? = some (.p k q) → ∃ r', (r :: ρA)[j]? = some r' ∧ ((∃ t' t0, r' = some t' ∧ ρ[k]? = some (some t0) ∧ ρ2[k]? = some (some (T.put t' t0 q))) ∨ (r' = none ∧ q = [] ∧ ∀ t, ρ2[k]? ≠ some (some t))) := fun x hx hl cs => by
      obtain ⟨h1, h2, h3⟩ := wb_at (os := os) nd'.2 hx
      refine ⟨by rw [h1, List.length_set], fun k hk => ?_, fun j k q e => ?_⟩
      · rw [h2 k (mem k hk).2, List.getElem?_set_ne (Ne.symm (mem k hk).1)]
      · cases j with
        | zero =>
          have e' : i = k ∧ path = q := by simpa using e
          obtain ⟨rfl, rfl⟩ := e'
          refine ⟨r, rfl, ?_⟩
          have e2 := h2 i nd'.1
          rcases cs with ⟨t', t0, c1, c2, c3⟩ | ⟨c1, c2, c3⟩
          · refine .inl ⟨t', t0, c1, c2, ?_⟩
            have hi : i < ρ.length := (List.getElem?_eq_some_iff.mp c2).1
            rw [e2, List.getElem?_set_self hi, c3]
          · refine .inr ⟨c1, c2, fun t => ?_⟩
            rw [e2, c3]
            by_cases hi : i < ρ.length
            · rw [List.getElem?_set_self hi]; exact fun z => by cases z
            · rw [List.getElem?_eq_none (by simpa using hi)]; exact fun z => by cases z
        | succ j =>
          have e' : os[j]? = some (.p k q) := by simpa using e
          have hk : k ≠ i := fun z => nd'.1 (z ▸ inS j k q e')
          obtain ⟨r', hr', cs'⟩ := h3 j k q e'
          refine ⟨r', by simpa using hr', ?_⟩
          rcases cs' with ⟨t', t0, c1, c2, c3⟩ | c
          · exact .inl ⟨t', t0, c1, by rw [List.getElem?_set_ne (Ne.symm hk)] at c2; exact c2, c3⟩
          · exact .inr c
    cases r with
    | some t' =>
      simp only [wb] at h
      split at h
      · rename_i t et
        exact fin _ h (.inl (List.getElem?_eq_some_iff.mp et).1) (.inl ⟨t', t, rfl, et, rfl⟩)
      · cases h
    | none =>
      cases path with
      | nil => exact fin none (by simpa [wb] using h) (.inr fun t z => by cases z) (.inr ⟨rfl, rfl, rfl⟩)
      | cons k p => simp [wb] at h

def consF (g : List Addr) (f : Fp) : Fp
  | 0 => g
  | j + 1 => f j
section
variable {K : PySem.W.Frag} {ρ : Rho} {fp : Fp} {σ : L2.St} {H : Hp}
theorem Env.nil : Env K [] (fun _ => []) [] H := ⟨rfl, fun i t h => by simp at h, fun _ _ => rfl, fun _ => .nil, fun _ _ _ h => by cases h⟩
theorem Env.cons {t : T} {v : V} {g : List Addr} (e : Env K ρ fp σ H) (r : Rep K H t v g) (nd : g.Nodup) (d : ∀ a ∈ g, ¬ In fp a) : Env K (some t :: ρ) (consF g fp) (some v :: σ) H := by
  refine ⟨by simp [e.len], fun i s h => ?_, fun i h => ?_, fun i => ?_, fun i j a h1 h2 => ?_⟩
  · cases i with
    | zero => have : t = s := by simpa using h
              subst this; exact ⟨v, rfl, r⟩
    | succ i => exact e.rep i s (by simpa using h)
  · cases i with
    | zero => exact absurd rfl (h t)
    | succ i => exact e.emp i fun s hs => h s (by simpa using hs)
  · cases i with
    | zero => exact nd
    | succ i => exact e.nd i
  · cases i with
    | zero =>
      cases j with
      | zero => rfl
      | succ j => exact (d a h1 ⟨j, h2⟩).elim
    | succ i =>
      cases j with
      | zero => exact (d a h2 ⟨i, h1⟩).elim
      | succ j => rw [e.dj i j a h1 h2]
theorem in_cons {g : List Addr} {a : Addr} (h : In (consF g fp) a) : a ∈ g ∨ In fp a := by
  obtain ⟨i, h⟩ := h
  cases i with
  | zero => exact .inl h
  | succ i => exact .inr ⟨i, h⟩

/-- the arguments as slots of a callee -/
theorem args_env (e : Env K ρ fp σ H) : ∀ {os : List O} {vs : List V} {fo : List Addr} {ts : List T}, ORs K ρ fp σ H os vs fo → getOs ρ os = some ts → fo.Nodup → (∀ a ∈ fo, ¬ In fp a) → (slots os).Nodup →
    ∃ fpA, Env K (ts.map some) fpA (vs.map some) H ∧ (∀ a, In fpA a → a ∈ fo ∨ ∃ (j i : Nat) (path : List Nat), os[j]? = some (O.p i path) ∧ a ∈ fpA j) ∧
      ∀ (j i : Nat) (path : List Nat), os[j]? = some (O.p i path) → ∃ u t0 s v, σ[i]? = some (some u) ∧ ρ[i]? = some (some t0) ∧ vs[j]? = some v ∧ RepP K H path t0 u (fp i) s v (fpA j)
  | [], vs, fo, ts, o, g, _, _, _ => by
    obtain ⟨rfl, rfl⟩ := o
    cases g
    refine ⟨fun _ => [], Env.nil, fun a h => ?_, fun j i path h => ?_⟩
    · obtain ⟨_, h⟩ := h
      cases h
    · simp at h
  | .v t :: os, vs, fo, ts, o, g, nd, d, ns => by
    obtain ⟨v, ws, f1, f2, rfl, rfl, r, o2⟩ := o
    simp only [getOs, getO] at g
    cases h2 : getOs ρ os with
    | none => rw [h2] at g; cases g
    | some ts' =>
      rw [h2] at g
      cases g
      have nd' := List.nodup_append.mp nd
      obtain ⟨fpA, eA, own, pl⟩ := args_env e (os := os) o2 h2 nd'.2.1 (fun a h => d a (List.mem_append_right _ h)) (slots_v ▸ ns)
      refine ⟨consF f1 fpA, eA.cons r nd'.1 fun a h z => ?_, fun a h => ?_, fun j i path h => ?_⟩
      · rcases own a z with z | ⟨j, i, path, ej, z⟩
        · exact nd'.2.2 a h a z rfl
        · obtain ⟨u, t0, s, w, h1, h2, h3, rp⟩ := pl j i path ej
          obtain ⟨_, _, _, f1', f2', ef, _⟩ := rp.use
          exact d a (List.mem_append_left _ h) ⟨i, by rw [ef]; simp [z]⟩
      · rcases in_cons h with h | h
        · exact .inl (List.mem_append_left _ h)
        · rcases own a h with h | ⟨j, i, path, ej, z⟩
          · exact .inl (List.mem_append_right _ h)
          · exact .inr ⟨j + 1, i, path, by simpa using ej, z⟩
      · cases j with
        | zero => simp at h
        | succ j => exact pl j i path (by simpa using h)
  | .p i path :: os, vs, fo, ts, o, g, nd, d, ns => by
    obtain ⟨v, ws, f1, f2, rfl, rfl, ⟨rfl, u, t0, s, g0, h1, h2, rp⟩, o2⟩ := o
    simp only [getOs] at g
    obtain ⟨rt, rs, ea, a1, a2, ef, back⟩ := rp.use
    have ns' : i ∉ slots os ∧ (slots os).Nodup := by simpa [slots, O.slot] using ns
    cases h3 : getOs ρ os with
    | none =>
      rw [h3] at g
      simp only [getO, h2, ea] at g
      cases g
    | some ts' =>
      rw [h3] at g
      simp only [getO, h2, ea] at g
      cases g
      obtain ⟨fpA, eA, own, pl⟩ := args_env e (os := os) o2 h3 (by simpa using nd) (fun a h => d a (by simpa using h)) ns'.2
      have ndi := e.nd i
      rw [ef] at ndi
      have inS : ∀ (j k : Nat) (q : List Nat), os[j]? = some (O.p k q) → k ∈ slots os := fun j k q e => List.mem_filterMap.mpr ⟨_, List.mem_of_getElem? e, rfl⟩
      refine ⟨consF g0 fpA, eA.cons rs (List.nodup_append.mp (List.nodup_append.mp ndi).1).2.1 fun a h z => ?_, fun a h => ?_, fun j k q h => ?_⟩
      · have hi : a ∈ fp i := by rw [ef]; simp [h]
        rcases own a z with z | ⟨j, k, q, ej, z⟩
        · exact d a (by simpa using z) ⟨i, hi⟩
        · obtain ⟨u', t0', s', w', k1, k2, k3, rp'⟩ := pl j k q ej
          obtain ⟨_, _, _, f1', f2', ef', _⟩ := rp'.use
          have hk : a ∈ fp k := by rw [ef']; simp [z]
          exact ns'.1 (e.dj i k a hi hk ▸ inS j k q ej)
      · rcases in_cons h with h | h
        · exact .inr ⟨0, i, path, rfl, h⟩
        · rcases own a h with h | ⟨j, k, q, ej, z⟩
          · exact .inl (by simpa using h)
          · exact .inr ⟨j + 1, k, q, by simpa using ej, z⟩
      · cases j with
        | zero =>
          have e' : i = k ∧ path = q := by simpa using h
          obtain ⟨rfl, rfl⟩ := e'
          exact ⟨u, t0, s, v, h1, h2, rfl, rp⟩
        | succ j => exact pl j k q (by simpa using h)

theorem slot_uniq : ∀ {os : List O} {j j' i : Nat} {q q' : List Nat}, (slots os).Nodup → os[j]? = some (O.p i q) → os[j']? = some (O.p i q') → j = j'
  | [], _, _, _, _, _, _, h1, _ => by simp at h1
  | o :: os, j, j', i, q, q', ns, h1, h2 => by
    have inS' : ∀ (j k : Nat) (q : List Nat), os[j]? = some (O.p k q) → k ∈ slots os := fun j k q e => List.mem_filterMap.mpr ⟨_, List.mem_of_getElem? e, rfl⟩
    have ns2 : (slots os).Nodup := by
      cases o with
      | v t =>
        exact (slots_v ▸ ns : (slots os).Nodup)
      | p k r => exact (by simpa [slots, O.slot] using ns : k ∉ slots os ∧ (slots os).Nodup).2
    cases j with
    | zero =>
      cases j' with
      | zero => rfl
      | succ j' =>
        have e1 : o = .p i q := by simpa using h1
        subst e1
        have z := inS' j' i q' (by simpa using h2)
        exact absurd z (by simpa [slots, O.slot] using ns : i ∉ slots os ∧ (slots os).Nodup).1
    | succ j =>
      cases j' with
      | zero =>
        have e1 : o = .p i q' := by simpa using h2
        subst e1
        have z := inS' j i q (by simpa using h1)
        exact absurd z (by simpa [slots, O.slot] using ns : i ∉ slots os ∧ (slots os).Nodup).1
      | succ j' => rw [slot_uniq (os := os) (j := j) (j' := j') ns2 (by simpa using h1) (by simpa using h2)]

/-- behind the operation: the places hold what it left -/
theorem args_back {os : List O} {vs : List V} {fo : List Addr} {fpA fpA' : Fp} {ρA ρ2 : Rho} {H2 : Hp} {fo2 : List Addr} (e : Env K ρ fp σ H) (d : ∀ a ∈ fo, ¬ In fp a) (ns : (slots os).Nodup)
    (own : ∀ a, In fpA a → a ∈ fo ∨ ∃ (j i : Nat) (path : List Nat), os[j]? = some (O.p i path) ∧ a ∈ fpA j)
    (pl : ∀ (j i : Nat) (path : List Nat), os[j]? = some (O.p i path) → ∃ u t0 s v, σ[i]? = some (some u) ∧ ρ[i]? = some (some t0) ∧ vs[j]? = some v ∧ RepP K H path t0 u (fp i) s v (fpA j))
    (lA : Lists (In fpA) H) (eA : Env K ρA fpA' (vs.map some) H2) (s : Step fpA H fpA' fo2 H2) (w : wb os ρA ρ = some ρ2) :
    ∃ fp2, Env K ρ2 fp2 σ H2 ∧ (∀ a, In fp2 a → In fp a ∨ In fpA' a) ∧ (∀ a ∈ fo2, ¬ In fp2 a) ∧ ((∀ (j i : Nat) (q : List Nat), os[j]? = some (O.p i q) → False) → fp2 = fp) := by
  obtain ⟨wl, wn, wp⟩ := wb_at ns w
  by_cases np : ∀ (j i : Nat) (q : List Nat), os[j]? = some (O.p i q) → False
  · have dis : ∀ a, In fp a → ¬ In fpA a := fun a ha z => by
      rcases own a z with z | ⟨j', i', q, ej', z⟩
      · exact d a z ha
      · exact np j' i' q ej'
    have hn : ∀ i, i ∉ slots os := fun i z => by
      obtain ⟨o, ho, z⟩ := List.mem_filterMap.mp z
      obtain ⟨j, hj⟩ := List.mem_iff_getElem?.mp ho
      cases o with
      | v t => cases z
      | p k q => exact np j k q hj
    refine ⟨fp, ⟨by rw [wl]; exact e.len, fun i t ht => ?_, fun i z => e.emp i fun t ht => z t (by rw [wn i (hn i)]; exact ht), e.nd, e.dj⟩, fun a h => .inl h, fun a ha hf => ?_, fun _ => rfl⟩
    · rw [wn i (hn i)] at ht
      obtain ⟨v, hv, r⟩ := e.rep i t ht
      exact ⟨v, hv, r.keep s.keep lA fun a ha => dis a ⟨i, ha⟩⟩
    · rcases s.sub a (.inr ha) with z | z
      · exact dis a hf z
      · obtain ⟨xs, w, _⟩ := e.own a hf
        rw [w] at z; cases z
  have inS : ∀ (j k : Nat) (q : List Nat), os[j]? = some (O.p k q) → k ∈ slots os := fun j k q e => List.mem_filterMap.mpr ⟨_, List.mem_of_getElem? e, rfl⟩
  have uniq : ∀ (j j' i : Nat) (q q' : List Nat), os[j]? = some (O.p i q) → os[j']? = some (O.p i q') → j = j' := fun j j' i q q' => slot_uniq ns
  have old : ∀ i a, a ∈ fp i → H a ≠ none := fun i a h => by
    obtain ⟨xs, z, _⟩ := e.own a ⟨i, h⟩
    rw [z]; exact fun z => by cases z
  -- each slot by itself
  have each : ∀ i, ∃ f : List Addr, (∀ t, ρ2[i]? = some (some t) → ∃ v, σ[i]? = some (some v) ∧ Rep K H2 t v f) ∧ ((∀ t, ρ2[i]? ≠ some (some t)) → f = []) ∧ f.Nodup ∧
      ∀ a ∈ f, (a ∈ fp i ∧ ¬ In fpA a) ∨ ∃ (j : Nat) (path : List Nat), os[j]? = some (O.p i path) ∧ a ∈ fpA' j := by
    intro i
    by_cases hi : ∃ (j : Nat) (path : List Nat), os[j]? = some (O.p i path)
    · obtain ⟨j, path, ej⟩ := hi
      obtain ⟨u, t0, s0, v, h1, h2, h3, rp⟩ := pl j i path ej
      obtain ⟨rt, rs, ea, a1, a2, ef, back⟩ := rp.use
      obtain ⟨r, hr, cs⟩ := wp j i path ej
      have ndi := e.nd i
      rw [ef] at ndi
      have dis : ∀ a, a ∈ fp i → a ∉ fpA j → ¬ In fpA a := fun a ha hn z => by
        rcases own a z with z | ⟨j', i', q, ej', z⟩
        · exact d a z ⟨i, ha⟩
        · obtain ⟨u', t0', s', w', k1, k2, k3, rp'⟩ := pl j' i' q ej'
          obtain ⟨_, _, _, f1', f2', ef', _⟩ := rp'.use
          have hk : a ∈ fp i' := by rw [ef']; simp [z]
          have ei := e.dj i i' a ha hk
          subst ei
          have := uniq j j' i path q ej ej'
          subst this
          exact hn z
      have n1 : ∀ a ∈ a1, a ∉ fpA j := fun a h z => (List.nodup_append.mp (List.nodup_append.mp ndi).1).2.2 a h a z rfl
      have n2 : ∀ a ∈ a2, a ∉ fpA j := fun a h z => (List.nodup_append.mp ndi).2.2 a (List.mem_append_right _ z) a h rfl
      have m1 : ∀ a ∈ a1, a ∈ fp i := fun a h => by rw [ef]; simp [h]
      have m2 : ∀ a ∈ a2, a ∈ fp i := fun a h => by rw [ef]; simp [h]
      have fresh : ∀ a, a ∈ fpA' j → a ∈ fp i → a ∈ fpA j := fun a h h' => by
        apply Classical.byContradiction
        intro hn
        rcases s.sub a (.inl ⟨j, h⟩) with z | z
        · exact dis a h' hn z
        · exact old i a h' z
      rcases cs with ⟨t', t0', rfl, c2, c3⟩ | ⟨rfl, rfl, c3⟩
      · rw [h2] at c2
        cases c2
        obtain ⟨v', hv', r'⟩ := eA.rep j t' hr
        have ev : v' = v := by
          rw [List.getElem?_map, h3] at hv'
          cases hv'; rfl
        subst ev
        have fin := back H2 t' (fpA' j) (In fpA) s.keep lA (fun a h => dis a (m1 a h) (n1 a h)) (fun a h => dis a (m2 a h) (n2 a h)) r'
        refine ⟨a1 ++ fpA' j ++ a2, fun t ht => ?_, fun z => absurd c3 (z _), ?_, fun a h => ?_⟩
        · rw [c3] at ht
          cases ht
          exact ⟨u, h1, fin⟩
        · refine List.nodup_append.mpr ⟨List.nodup_append.mpr ⟨(List.nodup_append.mp (List.nodup_append.mp ndi).1).1, eA.nd j, fun a x b y z => ?_⟩, (List.nodup_append.mp ndi).2.1, fun a x b y z => ?_⟩
          · subst z
            exact n1 a x (fresh a y (m1 a x))
          · subst z
            rcases List.mem_append.mp x with x | x
            · exact (List.nodup_append.mp ndi).2.2 a (List.mem_append_left _ x) a y rfl
            · exact n2 a y (fresh a x (m2 a y))
        · rcases List.mem_append.mp h with h | h
          · rcases List.mem_append.mp h with h | h
            · exact .inl ⟨m1 a h, dis a (m1 a h) (n1 a h)⟩
            · exact .inr ⟨j, path, ej, h⟩
          · exact .inl ⟨m2 a h, dis a (m2 a h) (n2 a h)⟩
      · exact ⟨[], fun t ht => absurd ht (c3 t), fun _ => rfl, .nil, fun a h => by cases h⟩
    · have hn : i ∉ slots os := fun z => by
        obtain ⟨o, ho, z⟩ := List.mem_filterMap.mp z
        obtain ⟨j, hj⟩ := List.mem_iff_getElem?.mp ho
        cases o with
        | v t => cases z
        | p k q =>
          have : k = i := by simpa [O.slot] using z
          subst this
          exact hi ⟨j, q, hj⟩
      have dis : ∀ a, a ∈ fp i → ¬ In fpA a := fun a ha z => by
        rcases own a z with z | ⟨j', i', q, ej', z⟩
        · exact d a z ⟨i, ha⟩
        · obtain ⟨u', t0', s', w', k1, k2, k3, rp'⟩ := pl j' i' q ej'
          obtain ⟨_, _, _, f1', f2', ef', _⟩ := rp'.use
          have hk : a ∈ fp i' := by rw [ef']; simp [z]
          have ei := e.dj i i' a ha hk
          subst ei
          exact hi ⟨j', q, ej'⟩
      refine ⟨fp i, fun t ht => ?_, fun z => ?_, e.nd i, fun a h => .inl ⟨h, dis a h⟩⟩
      · rw [wn i hn] at ht
        obtain ⟨v, hv, r⟩ := e.rep i t ht
        exact ⟨v, hv, r.keep s.keep lA dis⟩
      · exact e.emp i fun t ht => z t (by rw [wn i hn]; exact ht)
  obtain ⟨fp2, h⟩ := Classical.axiomOfChoice each
  have inA : ∀ i a, a ∈ fp2 i → (a ∈ fp i ∧ ¬ In fpA a) ∨ ∃ (j : Nat) (path : List Nat), os[j]? = some (O.p i path) ∧ a ∈ fpA' j := fun i a ha => (h i).2.2.2 a ha
  refine ⟨fp2, ⟨by rw [wl]; exact e.len, fun i t ht => (h i).1 t ht, fun i z => (h i).2.1 z, fun i => (h i).2.2.1, fun i k a h1 h2 => ?_⟩, fun a ⟨i, ha⟩ => ?_, fun a ha ⟨i, hi⟩ => ?_, fun z => absurd z np⟩
  · rcases inA i a h1 with ⟨x1, x2⟩ | ⟨j, q, ej, x⟩
    · rcases inA k a h2 with ⟨y1, y2⟩ | ⟨j', q', ej', y⟩
      · exact e.dj i k a x1 y1
      · rcases s.sub a (.inl ⟨j', y⟩) with z | z
        · exact (x2 z).elim
        · exact (old i a x1 z).elim
    · rcases inA k a h2 with ⟨y1, y2⟩ | ⟨j', q', ej', y⟩
      · rcases s.sub a (.inl ⟨j, x⟩) with z | z
        · exact (y2 z).elim
        · exact (old k a y1 z).elim
      · have := eA.dj j j' a x y
        subst this
        rw [ej] at ej'
        have z := Option.some.inj ej'
        injection z
  · rcases inA i a ha with ⟨x1, x2⟩ | ⟨j, q, ej, x⟩
    · exact .inl ⟨i, x1⟩
    · exact .inr ⟨j, x⟩
  · rcases inA i a hi with ⟨x1, x2⟩ | ⟨j, q, ej, x⟩
    · rcases s.sub a (.inr ha) with z | z
      · exact x2 z
      · exact old i a x1 z
    · exact s.dj a ha ⟨j, x⟩
end

/-- what an operation with an effect promises, by the trees of its arguments -/
def postF (K : PySem.W.Frag) (xi : XI) (vs : List V) (fp : Fp) (H : Hp) (Q : VK) (E : XK) : FR → Prop
  | .ok r ρ' => ∀ v H' fp' fo, Env K ρ' fp' (vs.map some) H' → Step fp H fp' fo H' → Rep K H' r v fo → Q v H'
  | .ex c t ρ' => ∀ d H' fp', Env K ρ' fp' (vs.map some) H' → Step fp H fp' [] H' → XRep K xi H' d c t → E (.ref (xi.xc c)) (some d) H'
  | .stuck => False
def spF (K : PySem.W.Frag) (xi : XI) (n : Nat) (φ : List T → FR) : Sp := fun vs H Q E => ∃ ts fp, ts.length = n ∧ Env K (ts.map some) fp (vs.map some) H ∧ postF K xi vs fp H Q E (φ ts)

def effFin (os : List O) (ρ : Rho) (τ : Bool) : FR → R
  | .ok r ρA => match wb os ρA ρ with
    | some ρ2 => .ok (.v r) ρ2 (τ || !(slots os).isEmpty)
    | none => .stuck
  | .ex c t ρA => match wb os ρA ρ with
    | some ρ2 => .ex c t ρ2
    | none => .stuck
  | .stuck => .stuck
def nodupB : List Nat → Bool
  | [] => true
  | n :: ns => !ns.contains n && nodupB ns
theorem nodup_of : ∀ {ns : List Nat}, nodupB ns = true → ns.Nodup
  | [], _ => .nil
  | n :: ns, h => by
    simp only [nodupB, Bool.and_eq_true, Bool.not_eq_true'] at h
    exact List.nodup_cons.mpr ⟨by simpa using h.1, nodup_of h.2⟩
def effSem (n : Nat) (ss : List (Rho → R)) (φ : List T → FR) : Rho → R := fun ρ => match evL ss ρ with
  | .ok os ρ' τ => match getOs ρ' os with
    | some ts => if nodupB (slots os) = true ∧ ts.length = n then effFin os ρ' τ (φ ts) else .stuck
    | none => .stuck
  | .ex c t ρ' => .ex c t ρ'
  | .stuck => .stuck
theorem noslot : ∀ {os : List O} {ρA ρ ρ2 : Rho}, (slots os).isEmpty = true → wb os ρA ρ = some ρ2 → ρ2 = ρ
  | [], _, _, _, _, h => by cases h; rfl
  | .v _ :: os, [], _, _, _, h => by simp [wb] at h
  | .v _ :: os, r :: rs, _, _, n, h => noslot (os := os) (by simpa [slots, O.slot] using n) (by simpa [wb] using h)
  | .p i q :: os, _, _, _, n, _ => by simp [slots, O.slot] at n

theorem eff_to {K : PySem.W.Frag} {xi : XI} {W : WX} {n : Nat} {ss : List (Rho → R)} {φ : List T → FR} {r : L2.St → List V → Hp → VK → Prop} {σ : L2.St} {H : Hp} {Q : VK}
    (ok : ∀ vs H Q, spF K xi n φ vs H Q (fun cls d H => W cls d σ H) → r σ vs H Q) (h : tE K xi W (effSem n ss φ) σ H Q) : nest K xi W ss σ H fun vs H1 => r σ vs H1 Q := by
  obtain ⟨ρ, fp, e, h⟩ := h
  refine nest_of ⟨ρ, fp, e, ?_⟩
  simp only [effSem] at h
  cases hs : evL ss ρ with
  | stuck => rw [hs] at h; exact h
  | ex c t ρ1 => rw [hs] at h; exact h
  | ok os ρ1 τ1 =>
    rw [hs] at h
    simp only at h
    cases hg : getOs ρ1 os with
    | none => rw [hg] at h; exact h.elim
    | some ts =>
      rw [hg] at h
      simp only at h
      by_cases c : nodupB (slots os) = true ∧ ts.length = n
      · rw [if_pos c] at h
        obtain ⟨c, cn⟩ := c
        intro vs H1 fp1 fo1 e1 s1 q1 o1
        obtain ⟨fpA, eA, own, pl⟩ := args_env e1 o1 hg s1.nd s1.dj (nodup_of c)
        refine ok vs H1 Q ⟨ts, fpA, cn, eA, ?_⟩
        have whole : ∀ {fp2 fpA' : Fp} {H2 : Hp} {fo2 : List Addr}, Step fpA H1 fpA' fo2 H2 → (∀ a, In fp2 a → In fp1 a ∨ In fpA' a) → (∀ a ∈ fo2, ¬ In fp2 a) → Step fp H fp2 fo2 H2 := fun {fp2 fpA' H2 fo2} s2 hi hd => by
          have inA : ∀ a, In fpA a → In fp a ∨ H a = none := fun a h => by
            rcases own a h with h | ⟨j, i, q, ej, h⟩
            · exact s1.sub a (.inr h)
            · obtain ⟨u', t0', s', w', k1, k2, k3, rp'⟩ := pl j i q ej
              obtain ⟨_, _, _, f1', f2', ef', _⟩ := rp'.use
              exact s1.sub a (.inl ⟨i, by rw [ef']; simp [h]⟩)
          have up : ∀ a, In fpA a ∨ H1 a = none → In fp a ∨ H a = none := fun a h => by
            rcases h with h | h
            · exact inA a h
            · exact s1.back h
          refine ⟨fun a o z n => s2.keep a o (s1.keep a o z n) fun w => ?_, fun a z => ?_, s2.nd, hd⟩
          · rcases inA a w with w | w
            · exact n w
            · rw [z] at w; cases w
          · rcases z with z | z
            · rcases hi a z with z | z
              · exact s1.sub a (.inl z)
              · exact up a (s2.sub a (.inl z))
            · exact up a (s2.sub a (.inr z))
        cases hφ : φ ts with
        | stuck => rw [hφ] at h; exact h
        | ok r ρA =>
          rw [hφ] at h
          simp only [effFin] at h
          cases hw : wb os ρA ρ1 with
          | none => rw [hw] at h; exact h.elim
          | some ρ2 =>
            rw [hw] at h
            intro v H2 fpA' fo2 eA' s2 rv
            obtain ⟨fp2, e2, hi, hd, hz⟩ := args_back e1 s1.dj (nodup_of c) own pl eA.own eA' s2 hw
            refine h v H2 fp2 fo2 e2 (whole s2 hi hd) (fun z => ?_) rv
            simp only [Bool.or_eq_false_iff, Bool.not_eq_false'] at z
            obtain ⟨p1, p2, k1⟩ := q1 z.1
            have np : ∀ (j i : Nat) (q : List Nat), os[j]? = some (O.p i q) → False := fun j i q ej => by
              have := List.mem_filterMap.mpr ⟨_, List.mem_of_getElem? ej, (rfl : O.slot (O.p i q) = some i)⟩
              have w := z.2
              simp only [List.isEmpty_iff] at w
              rw [show os.filterMap O.slot = [] from w] at this
              cases this
            have nA : ∀ a o, H a = some o → ¬ In fpA a := fun a o ha w => by
              rcases own a w with w | ⟨j, i, q, ej, w⟩
              · rcases s1.sub a (.inr w) with w2 | w2
                · exact s1.dj a w (p2 ▸ w2)
                · rw [ha] at w2; cases w2
              · exact np j i q ej
            exact ⟨(noslot z.2 hw).trans p1, (hz np).trans p2, fun a o ha => s2.keep a o (k1 a o ha) (nA a o ha)⟩
        | ex c' t ρA =>
          rw [hφ] at h
          simp only [effFin] at h
          cases hw : wb os ρA ρ1 with
          | none => rw [hw] at h; exact h.elim
          | some ρ2 =>
            rw [hw] at h
            intro d' H2 fpA' eA' s2 x
            obtain ⟨fp2, e2, hi, hd, hz⟩ := args_back e1 s1.dj (nodup_of c) own pl eA.own eA' s2 hw
            exact h d' H2 fp2 e2 (whole s2 hi hd) x
      · rw [if_neg c] at h; exact h.elim
end Pv
set_option Elab.async false
set_option linter.all false
set_option maxRecDepth 100000
set_option maxHeartbeats 2000000
/-! Pv part F: tests, items, slices, displays. -/
namespace Pv
open PySem L2

/-! ### tests -/
/-- its truth is asked of its value -/
def byTruth : Expr → Bool
  | .UnaryOp .Not _ _ => false
  | .BoolOp _ _ _ => false
  | .IfExp _ _ _ _ => false
  | .Compare _ _ _ _ => false
  | _ => true
theorem isTrue_of {x : Expr} {env : PySem.Env} (h : byTruth x = true) : ∀ whole, isTrue x env whole = (do let v ← whole; standAt x.pos; holding [v] (truthy v)) := by
  intro whole
  cases x <;> first | rfl | (cases h; done) | skip
  rename_i op _ _
  cases op <;> first | rfl | cases h
/-- a call or a name that is True or False, as a test -/
def bOf (a : Ex) : Bx where
  sem := boolSem a.sem
  m := fun N sc cm e => byTruth e && a.m N sc cm e
  pre := a.pre
  snd := fun {X xi N sc lvl cm W x} g p h => by
    simp only [Bool.and_eq_true] at h
    exact PT.to (pt_val (a.snd g p h.2) (isTrue_of h.1)) fun σ H Q hq => bool_to hq
def truthT : T → Option Bool
  | .non => some false
  | .bl b => some b
  | .int i => some (i != 0)
  | .str y => if y.length ≤ sizeLine then some ((y.length : Int) != 0) else none
  | .lst ts => some (!ts.isEmpty)
  | .tup ts => some (!ts.isEmpty)
  | .fro ns => some (!ns.isEmpty)
  | _ => none
theorem tru_of {K : PySem.W.Frag} {H : Hp} {t : T} {v : V} {f : List Addr} {k : Bool} (h : Rep K H t v f) (e : truthT t = some k) : TruV K v H k := by
  cases t with
  | non => rw [h.1]; cases e; rfl
  | bl b => rw [h.1]; cases e; rfl
  | int i => rw [h.1]; cases e; rfl
  | str s =>
    rw [h.1]
    simp only [truthT] at e
    split at e
    · rename_i c; cases e; exact ⟨c, rfl⟩
    · cases e
  | tup ts =>
    obtain ⟨a, vs, rfl, s, r⟩ := h
    cases e
    refine .inr (.inl ⟨vs, SqT.of s, ?_⟩)
    have := r.len
    cases vs <;> cases ts <;> first | rfl | simp at this
  | lst ts =>
    obtain ⟨a, vs, g, rfl, _, s, r⟩ := h
    cases e
    refine .inl ⟨vs, SqL.of s, ?_⟩
    have := r.len
    cases vs <;> cases ts <;> first | rfl | simp at this
  | fro ns =>
    obtain ⟨_, a, rfl, h⟩ := h
    cases e
    refine .inl ⟨ns.map .int, ?_, by cases ns <;> rfl⟩
    rcases h with ⟨o, h⟩ | h
    · exact .inl (.inr ⟨o, h⟩)
    · exact h H
  | _ => cases e
def truSem (s : Rho → R) : Rho → RB := fun ρ => match s ρ with
  | .ok o ρ' τ => match getO ρ' o with
    | some t => match truthT t with
      | some b => .ok b ρ' τ
      | none => .stuck
    | none => .stuck
  | .ex c t ρ' => .ex c t ρ'
  | .stuck => .stuck
def bTruth (a : Ex) : Bx where
  sem := truSem a.sem
  m := fun N sc cm e => byTruth e && a.m N sc cm e
  pre := a.pre
  snd := fun {X xi N sc lvl cm W x} g p h => by
    simp only [Bool.and_eq_true] at h
    refine PT.to (pt_truth (a.snd g p h.2) (isTrue_of h.1)) fun σ H Q hq => ?_
    obtain ⟨ρ, fp, e, hq⟩ := hq
    refine ⟨ρ, fp, e, ?_⟩
    simp only [truSem] at hq
    cases hs : a.sem ρ with
    | stuck => rw [hs] at hq; exact hq
    | ex c t ρ' => rw [hs] at hq; exact hq
    | ok o ρ' τ =>
      rw [hs] at hq
      simp only at hq
      cases hg : getO ρ' o with
      | none => rw [hg] at hq; exact hq.elim
      | some t =>
        rw [hg] at hq
        simp only at hq
        cases hk : truthT t with
        | none => rw [hk] at hq; exact hq.elim
        | some b =>
          rw [hk] at hq
          intro v H' fp' fo' e' s' q' r'
          obtain ⟨f, rf, _⟩ := r'.get e' hg
          exact ⟨b, tru_of rf hk, hq H' fp' e' s'.drop q'⟩
/-- and, or over several tests -/
def andSem : List (Rho → RB) → Rho → RB
  | [], _ => .stuck
  | [a], ρ => a ρ
  | a :: b :: r, ρ => match a ρ with
    | .ok true ρ1 τ1 => match andSem (b :: r) ρ1 with
      | .ok k ρ2 τ2 => .ok k ρ2 (τ1 || τ2)
      | x => x
    | x => x
def orSem : List (Rho → RB) → Rho → RB
  | [], _ => .stuck
  | [a], ρ => a ρ
  | a :: b :: r, ρ => match a ρ with
    | .ok false ρ1 τ1 => match orSem (b :: r) ρ1 with
      | .ok k ρ2 τ2 => .ok k ρ2 (τ1 || τ2)
      | x => x
    | x => x
def allM : List Bx → List Str → Scope → Bool → List Expr → Bool
  | [], _, _, _, [] => true
  | b :: bs, N, sc, cm, e :: es => b.m N sc cm e && allM bs N sc cm es
  | _, _, _, _, _ => false
def allPre : List Bx → Gm → Nat → Prop
  | [], _, _ => True
  | b :: bs, Γ, k => b.pre Γ k ∧ allPre bs Γ k
theorem PW.to {X : Cx} {e : Expr} {t t' : TT} (h : PW X e t) (w : ∀ σ H Q, t' σ H Q → t σ H Q) : PW X e t' := ⟨fun wh pins s σ H Q I q => h.run wh pins s σ H Q I (w σ H Q q)⟩
theorem two_to {K : PySem.W.Frag} {xi : XI} {W : WX} {a b : Rho → RB} {stop : Bool} {c : Rho → RB} (hc : ∀ ρ, c ρ = match a ρ with
    | .ok k ρ1 τ1 => if k = stop then .ok k ρ1 τ1 else (match b ρ1 with
      | .ok k ρ2 τ2 => .ok k ρ2 (τ1 || τ2)
      | x => x)
    | x => x) {σ : L2.St} {H : Hp} {Q : Bool → Hp → Prop} (h : tT K xi W c σ H Q) : tT K xi W a σ H fun k H1 => if k = stop then Q k H1 else tT K xi W b σ H1 Q := by
  obtain ⟨ρ, fp, e, h⟩ := h
  refine ⟨ρ, fp, e, ?_⟩
  rw [hc] at h
  cases ha : a ρ with
  | stuck => rw [ha] at h; exact h
  | ex c t ρ' => rw [ha] at h; exact h
  | ok k ρ1 τ1 =>
    rw [ha] at h
    simp only at h
    intro H1 fp1 e1 s1 q1
    by_cases ck : k = stop
    · rw [if_pos ck] at h ⊢
      exact h H1 fp1 e1 s1 q1
    · rw [if_neg ck] at h ⊢
      refine ⟨ρ1, fp1, e1, ?_⟩
      cases hb : b ρ1 with
      | stuck => rw [hb] at h; exact h
      | ex c t ρ' => rw [hb] at h; exact fun d H2 fp2 e2 s2 x => h d H2 fp2 e2 (s1.trans0 s2) x
      | ok k2 ρ2 τ2 =>
        rw [hb] at h
        exact fun H2 fp2 e2 s2 q2 => h H2 fp2 e2 (s1.trans0 s2) fun z => by
          simp only [Bool.or_eq_false_iff] at z
          exact (q1 z.1).trans (q2 z.2)
theorem and_pw {X : Cx} {xi : XI} {N : List Str} {sc : Scope} {lvl : Nat} {cm : Bool} {W : WX} {pos : Pos} (g : Gd X xi N sc lvl cm W) : ∀ {bs : List Bx} {es : List Expr}, bs ≠ [] → allPre bs (gm X xi) lvl → allM bs N sc cm es = true → PW X (.BoolOp .And es pos) (tT X.K xi W (andSem (bs.map Bx.sem)))
  | [], _, n, _, _ => absurd rfl n
  | [b], [], _, _, h => by simp [allM] at h
  | [b], [e], _, p, h => by
    simp only [allM, Bool.and_true] at h
    exact pw_and1 (b.snd g p.1 h)
  | [b], _ :: _ :: _, _, _, h => by simp [allM] at h
  | b :: c :: bs, [], _, _, h => by simp [allM] at h
  | b :: c :: bs, [e], _, _, h => by simp [allM] at h
  | b :: c :: bs, e :: e2 :: es, _, p, h => by
    simp only [allM, Bool.and_eq_true] at h
    refine PW.to (pw_and (b.snd g p.1 h.1) (and_pw g (bs := c :: bs) (es := e2 :: es) (by simp) p.2 (by simpa [allM] using h.2))) fun σ H Q hq => ?_
    refine (show tT X.K xi W b.sem σ H fun k H1 => if k = true then tT X.K xi W (andSem ((c :: bs).map Bx.sem)) σ H1 Q else Q false H1 from ?_)
    have z := two_to (a := b.sem) (b := andSem ((c :: bs).map Bx.sem)) (stop := false) (fun ρ => ?_) hq
    · obtain ⟨ρ, fp, e, z⟩ := z
      refine ⟨ρ, fp, e, ?_⟩
      cases hb : b.sem ρ with
      | stuck => rw [hb] at z; exact z
      | ex c t ρ' => rw [hb] at z; exact z
      | ok k ρ1 τ1 =>
        rw [hb] at z
        intro H1 fp1 e1 s1 q1
        have w := z H1 fp1 e1 s1 q1
        cases k with
        | true => simpa using w
        | false => simpa using w
    · simp only [List.map_cons, andSem]
      cases b.sem ρ with
      | ok k ρ1 τ1 => cases k <;> rfl
      | _ => rfl
theorem or_pw {X : Cx} {xi : XI} {N : List Str} {sc : Scope} {lvl : Nat} {cm : Bool} {W : WX} {pos : Pos} (g : Gd X xi N sc lvl cm W) : ∀ {bs : List Bx} {es : List Expr}, bs ≠ [] → allPre bs (gm X xi) lvl → allM bs N sc cm es = true → PW X (.BoolOp .Or es pos) (tT X.K xi W (orSem (bs.map Bx.sem)))
  | [], _, n, _, _ => absurd rfl n
  | [b], [], _, _, h => by simp [allM] at h
  | [b], [e], _, p, h => by
    simp only [allM, Bool.and_true] at h
    exact pw_or1 (b.snd g p.1 h)
  | [b], _ :: _ :: _, _, _, h => by simp [allM] at h
  | b :: c :: bs, [], _, _, h => by simp [allM] at h
  | b :: c :: bs, [e], _, _, h => by simp [allM] at h
  | b :: c :: bs, e :: e2 :: es, _, p, h => by
    simp only [allM, Bool.and_eq_true] at h
    refine PW.to (pw_or (b.snd g p.1 h.1) (or_pw g (bs := c :: bs) (es := e2 :: es) (by simp) p.2 (by simpa [allM] using h.2))) fun σ H Q hq => ?_
    refine (show tT X.K xi W b.sem σ H fun k H1 => if k = true then Q true H1 else tT X.K xi W (orSem ((c :: bs).map Bx.sem)) σ H1 Q from ?_)
    have z := two_to (a := b.sem) (b := orSem ((c :: bs).map Bx.sem)) (stop := true) (fun ρ => ?_) hq
    · obtain ⟨ρ, fp, e, z⟩ := z
      refine ⟨ρ, fp, e, ?_⟩
      cases hb : b.sem ρ with
      | stuck => rw [hb] at z; exact z
      | ex c t ρ' => rw [hb] at z; exact z
      | ok k ρ1 τ1 =>
        rw [hb] at z
        intro H1 fp1 e1 s1 q1
        have w := z H1 fp1 e1 s1 q1
        cases k with
        | true => simpa using w
        | false => simpa using w
    · simp only [List.map_cons, orSem]
      cases b.sem ρ with
      | ok k ρ1 τ1 => cases k <;> rfl
      | _ => rfl
def bAnd (bs : List Bx) : Bx where
  sem := andSem (bs.map Bx.sem)
  m := fun N sc cm e => match e with
    | .BoolOp .And es _ => !bs.isEmpty && allM bs N sc cm es
    | _ => false
  pre := allPre bs
  snd := fun {X xi N sc lvl cm W x} g p h => by
    split at h
    · simp only [Bool.and_eq_true, Bool.not_eq_true', List.isEmpty_eq_false_iff] at h
      exact (and_pw g h.1 p h.2).pt
    · cases h
def bOr (bs : List Bx) : Bx where
  sem := orSem (bs.map Bx.sem)
  m := fun N sc cm e => match e with
    | .BoolOp .Or es _ => !bs.isEmpty && allM bs N sc cm es
    | _ => false
  pre := allPre bs
  snd := fun {X xi N sc lvl cm W x} g p h => by
    split at h
    · simp only [Bool.and_eq_true, Bool.not_eq_true', List.isEmpty_eq_false_iff] at h
      exact (or_pw g h.1 p h.2).pt
    · cases h
def notSem (a : Rho → RB) : Rho → RB := fun ρ => match a ρ with
  | .ok k ρ' τ => .ok (!k) ρ' τ
  | x => x
def bNot (a : Bx) : Bx where
  sem := notSem a.sem
  m := fun N sc cm e => match e with
    | .UnaryOp .Not x _ => a.m N sc cm x
    | _ => false
  pre := a.pre
  snd := fun {X xi N sc lvl cm W x} g p h => by
    split at h
    · refine PT.to (pt_not (a.snd g p h)) fun σ H Q hq => ?_
      obtain ⟨ρ, fp, e, hq⟩ := hq
      refine ⟨ρ, fp, e, ?_⟩
      simp only [notSem] at hq
      cases ha : a.sem ρ with
      | stuck => rw [ha] at hq; exact hq
      | ex c t ρ' => rw [ha] at hq; exact hq
      | ok k ρ1 τ1 => rw [ha] at hq; exact hq
    · cases h
/-! ### truths as values -/
def andV (a b : Rho → R) : Rho → R := fun ρ => match a ρ with
  | .ok (.v (.bl true)) ρ1 τ1 => match b ρ1 with
    | .ok o ρ2 τ2 => .ok o ρ2 (τ1 || τ2)
    | x => x
  | .ok (.v (.bl false)) ρ1 τ1 => .ok (.v (.bl false)) ρ1 τ1
  | .ok _ _ _ => .stuck
  | x => x
def orV (a b : Rho → R) : Rho → R := fun ρ => match a ρ with
  | .ok (.v (.bl false)) ρ1 τ1 => match b ρ1 with
    | .ok o ρ2 τ2 => .ok o ρ2 (τ1 || τ2)
    | x => x
  | .ok (.v (.bl true)) ρ1 τ1 => .ok (.v (.bl true)) ρ1 τ1
  | .ok _ _ _ => .stuck
  | x => x
/-- going on behind a quiet or loud first part -/
theorem post_more {K : PySem.W.Frag} {xi : XI} {W : WX} {σ : L2.St} {fp fp1 : Fp} {H H1 : Hp} {ρ ρ1 : Rho} {τ1 : Bool} {Q : VK} {b : Rho → R} (e1 : Env K ρ1 fp1 σ H1) (s1 : Step fp H fp1 [] H1) (q1 : τ1 = false → Quiet ρ fp H ρ1 fp1 H1)
    (h : postE K xi W σ fp H ρ Q (match b ρ1 with | .ok o ρ2 τ2 => .ok o ρ2 (τ1 || τ2) | x => x)) : tE K xi W b σ H1 Q := by
  refine ⟨ρ1, fp1, e1, ?_⟩
  cases hb : b ρ1 with
  | stuck => rw [hb] at h; exact h
  | ex c t ρ' => rw [hb] at h; exact fun d H2 fp2 e2 s2 x => h d H2 fp2 e2 (s1.trans0 s2) x
  | ok o ρ2 τ2 =>
    rw [hb] at h
    exact fun v H2 fp2 fo2 e2 s2 q2 r2 => h v H2 fp2 fo2 e2 (s1.trans0 s2) (fun z => by
      simp only [Bool.or_eq_false_iff] at z
      exact (q1 z.1).trans (q2 z.2)) r2
theorem andV_to {K : PySem.W.Frag} {xi : XI} {W : WX} {a b : Rho → R} {σ : L2.St} {H : Hp} {Q : VK} (h : tE K xi W (andV a b) σ H Q) : tAndV (tE K xi W a) (tE K xi W b) σ H Q := by
  obtain ⟨ρ, fp, e, h⟩ := h
  refine ⟨ρ, fp, e, ?_⟩
  simp only [andV] at h
  cases ha : a ρ with
  | stuck => rw [ha] at h; exact h
  | ex c t ρ' => rw [ha] at h; exact h
  | ok o ρ1 τ1 =>
    rw [ha] at h
    cases o with
    | p i q => exact h.elim
    | v t =>
      cases t <;> first | exact (show False from h).elim | skip
      rename_i k
      intro v H1 fp1 fo1 e1 s1 q1 r1
      refine ⟨k, r1.1, ?_⟩
      cases k with
      | true =>
        rw [if_pos rfl]
        exact post_more e1 s1.drop q1 h
      | false =>
        rw [if_neg Bool.false_ne_true]
        exact h _ H1 fp1 [] e1 s1.drop q1 ⟨rfl, rfl⟩
theorem orV_to {K : PySem.W.Frag} {xi : XI} {W : WX} {a b : Rho → R} {σ : L2.St} {H : Hp} {Q : VK} (h : tE K xi W (orV a b) σ H Q) : tOrV (tE K xi W a) (tE K xi W b) σ H Q := by
  obtain ⟨ρ, fp, e, h⟩ := h
  refine ⟨ρ, fp, e, ?_⟩
  simp only [orV] at h
  cases ha : a ρ with
  | stuck => rw [ha] at h; exact h
  | ex c t ρ' => rw [ha] at h; exact h
  | ok o ρ1 τ1 =>
    rw [ha] at h
    cases o with
    | p i q => exact h.elim
    | v t =>
      cases t <;> first | exact (show False from h).elim | skip
      rename_i k
      intro v H1 fp1 fo1 e1 s1 q1 r1
      refine ⟨k, r1.1, ?_⟩
      cases k with
      | true =>
        rw [if_pos rfl]
        exact h _ H1 fp1 [] e1 s1.drop q1 ⟨rfl, rfl⟩
      | false =>
        rw [if_neg Bool.false_ne_true]
        exact post_more e1 s1.drop q1 h
def eAnd (a b : Ex) : Ex where
  sem := andV a.sem b.sem
  m := fun N sc cm e => match e with
    | .BoolOp .And [x, y] _ => a.m N sc cm x && b.m N sc cm y
    | _ => false
  pre := fun Γ k => a.pre Γ k ∧ b.pre Γ k
  snd := fun {X xi N sc lvl cm W x} g p h => by
    split at h
    · simp only [Bool.and_eq_true] at h
      exact PE.to (pe_and (a.snd g p.1 h.1) (pe_one (b.snd g p.2 h.2))) fun σ H Q hq => andV_to hq
    · cases h
def eOr (a b : Ex) : Ex where
  sem := orV a.sem b.sem
  m := fun N sc cm e => match e with
    | .BoolOp .Or [x, y] _ => a.m N sc cm x && b.m N sc cm y
    | _ => false
  pre := fun Γ k => a.pre Γ k ∧ b.pre Γ k
  snd := fun {X xi N sc lvl cm W x} g p h => by
    split at h
    · simp only [Bool.and_eq_true] at h
      exact PE.to (pe_or (a.snd g p.1 h.1) (pe_one (b.snd g p.2 h.2))) fun σ H Q hq => orV_to hq
    · cases h
def notT : T → Option T
  | .bl b => some (.bl (!b))
  | _ => none
def eNot (a : Ex) : Ex where
  sem := opSem [a.sem] (f1 notT)
  m := fun N sc cm e => match e with
    | .UnaryOp .Not x _ => a.m N sc cm x
    | _ => false
  pre := a.pre
  snd := fun {X xi N sc lvl cm W x} g p h => by
    split at h
    · refine PE.to (pe_not (a.snd g p h)) fun σ H Q hq => op_to (r := ru fun x H Q => ∃ c, x = .bl c ∧ Q (.bl (!c)) H) (ok1 fun H s u x fx hg rx Q p => ?_) hq
      unfold notT at hg
      split at hg <;> cases hg
      obtain ⟨rfl, _⟩ := rx
      exact ⟨_, rfl, p.v ⟨rfl, rfl⟩⟩
    · cases h
/-! ### a if t else b -/
def ifV (c : Rho → RB) (a b : Rho → R) : Rho → R := fun ρ => match c ρ with
  | .ok k ρ1 τ1 => if k = true then (match a ρ1 with
      | .ok o ρ2 τ2 => .ok o ρ2 (τ1 || τ2)
      | x => x) else (match b ρ1 with
      | .ok o ρ2 τ2 => .ok o ρ2 (τ1 || τ2)
      | x => x)
  | .ex c t ρ' => .ex c t ρ'
  | .stuck => .stuck
def eIf (c : Bx) (a b : Ex) : Ex where
  sem := ifV c.sem a.sem b.sem
  m := fun N sc cm e => match e with
    | .IfExp t x y _ => c.m N sc cm t && (a.m N sc cm x && b.m N sc cm y)
    | _ => false
  pre := fun Γ k => c.pre Γ k ∧ a.pre Γ k ∧ b.pre Γ k
  snd := fun {X xi N sc lvl cm W x} g p h => by
    split at h
    · simp only [Bool.and_eq_true] at h
      refine PE.to (pe_ifExp (c.snd g p.1 h.1) (a.snd g p.2.1 h.2.1) (b.snd g p.2.2 h.2.2)) fun σ H Q hq => ?_
      obtain ⟨ρ, fp, e, hq⟩ := hq
      refine ⟨ρ, fp, e, ?_⟩
      simp only [ifV] at hq
      cases ha : c.sem ρ with
      | stuck => rw [ha] at hq; exact hq
      | ex c t ρ' => rw [ha] at hq; exact hq
      | ok k ρ1 τ1 =>
        rw [ha] at hq
        simp only at hq
        intro H1 fp1 e1 s1 q1
        cases k with
        | true =>
          rw [if_pos rfl] at hq ⊢
          exact post_more e1 s1 q1 hq
        | false =>
          rw [if_neg Bool.false_ne_true] at hq ⊢
          exact post_more e1 s1 q1 hq
    · cases h
end Pv
set_option Elab.async false
set_option linter.all false
set_option maxRecDepth 100000
set_option maxHeartbeats 2000000
/-! Pv part G: items, slices, displays, calls of built-ins and own defs, methods. -/
namespace Pv
open PySem L2

/-! ### items -/
def notSlice : Expr → Bool
  | .Slice _ _ _ _ => false
  | _ => true
theorem plainIx_of {x : Expr} (h : notSlice x = true) : PlainIx x := by
  intro o i
  cases x <;> first | rfl | cases h
def itemO (oa : O) (k : Nat) (s : T) : Option O := if s.imm = true then some (.v s) else match oa with
  | .p j path => some (.p j (path ++ [k]))
  | .v _ => none
def ixO (ρ : Rho) (oa : O) : T → T → Option O
  | .str z, .int i => if z.length ≤ sizeLine then (match atI z.cps.toList i with
    | some c => some (.v (.str ⟨#[c]⟩))
    | none => none) else none
  | .fro ns, .int i => match atI ns i with
    | some n => some (.v (.int n))
    | none => none
  | .tup ts, .int i => match ixN ts.length i with
    | some k => match ts[k]? with
      | some s => itemO oa k s
      | none => none
    | none => none
  | .lst ts, .int i => match ixN ts.length i with
    | some k => match ts[k]? with
      | some s => itemO oa k s
      | none => none
    | none => none
  | _, _ => none
def ixSem (a b : Rho → R) : Rho → R := fun ρ => match evL [a, b] ρ with
  | .ok [oa, ob] ρ' τ => match getO ρ' oa, getO ρ' ob with
    | some s, some t => match ixO ρ' oa s t with
      | some o => .ok o ρ' τ
      | none => .stuck
    | _, _ => .stuck
  | .ok _ _ _ => .stuck
  | .ex c t ρ' => .ex c t ρ'
  | .stuck => .stuck
section
variable {K : PySem.W.Frag} {ρ : Rho} {fp : Fp} {σ : L2.St} {H : Hp}
theorem atI_of {α : Type} {xs : List α} {i : Int} {k : Nat} {x : α} (h : ixN xs.length i = some k) (e : xs[k]? = some x) : atI xs i = some x := by
  unfold atI
  rw [h]
  exact e
theorem item_of {t s : T} {ts : List T} {v : V} {f : List Addr} {i : Int} {k : Nat} (h : Rep K H t v f) (hi : t = .tup ts ∨ t = .lst ts) (hk : ixN ts.length i = some k) (e : ts[k]? = some s) :
    ∃ y g, (∀ Q : V → Hp → Prop, Q y H → rIx K v (.int i) H Q) ∧ RepP K H [k] t v f s y g := by
  rcases hi with rfl | rfl
  · obtain ⟨a, vs, rfl, sq, r⟩ := h
    obtain ⟨y, f1, g, f2, hy, rfl, ry, r1, r2⟩ := Reps.get r e
    have el := r.len
    exact ⟨y, g, fun Q q => .inr (.inl ⟨a, vs, i, y, rfl, rfl, SqT.of sq, atI_of (by rw [el]; exact hk) hy, q⟩), ⟨a, vs, s, y, f1, g, f2, rfl, rfl, sq, e, hy, r1, ⟨rfl, rfl, rfl, ry⟩, r2⟩⟩
  · obtain ⟨a, vs, f', rfl, rfl, sq, r⟩ := h
    obtain ⟨y, f1, g, f2, hy, rfl, ry, r1, r2⟩ := Reps.get r e
    have el := r.len
    exact ⟨y, g, fun Q q => .inl ⟨a, vs, i, y, rfl, rfl, SqL.of sq, atI_of (by rw [el]; exact hk) hy, q⟩, ⟨a, vs, s, y, f1, g, f2, rfl, rfl, sq, e, hy, r1, ⟨rfl, rfl, rfl, ry⟩, r2⟩⟩
theorem fro_sq {ns : List Int} {v : V} {f : List Addr} (h : Rep K H (.fro ns) v f) : ∃ a, v = .ref a ∧ SqL K H a (ns.map .int) := by
  obtain ⟨_, a, rfl, h⟩ := h
  rcases h with ⟨o, h⟩ | h
  · exact ⟨a, rfl, .inl (.inr ⟨o, h⟩)⟩
  · exact ⟨a, rfl, h H⟩
theorem ix_ok {oa o : O} {va vb : V} {fa fb : List Addr} {s t : T} (e : Env K ρ fp σ H) (ra : OR K ρ fp σ H oa va fa) (ga : getO ρ oa = some s) (rb : Rep K H t vb fb) (h : ixO ρ oa s t = some o) {Q : V → Hp → Prop}
    (q : ∀ v, OR K ρ fp σ H o v [] → Q v H) : rIx K va vb H Q := by
  have seq : ∀ {ts : List T} {i : Int}, (s = .tup ts ∨ s = .lst ts) → (match ixN ts.length i with | some k => (match ts[k]? with | some x => itemO oa k x | none => none) | none => none) = some o → rIx K va (.int i) H Q := fun {ts i} hs h => by
    cases hk : ixN ts.length i with
    | none => rw [hk] at h; cases h
    | some k =>
      rw [hk] at h
      simp only at h
      cases hx : ts[k]? with
      | none => rw [hx] at h; cases h
      | some x =>
        rw [hx] at h
        simp only [itemO] at h
        obtain ⟨fs, rs, _⟩ := ra.get e ga
        split at h
        · rename_i im
          cases h
          obtain ⟨y, g, rix, rp⟩ := item_of rs hs hk hx
          have rx := rp.use.2.1
          have z := rx.imm_nil im
          subst z
          exact rix Q (q y rx)
        · cases oa with
          | v _ => cases h
          | p j path =>
            cases h
            obtain ⟨_, u, t0, s', g', h1, h2, h3⟩ := ra
            have e1 := h3.use.2.2.1
            simp only [getO, h2, e1] at ga
            cases ga
            obtain ⟨y, g, rix, rp⟩ := item_of h3.use.2.1 hs hk hx
            exact rix Q (q y ⟨rfl, u, t0, x, g, h1, h2, h3.comp rp⟩)
  unfold ixO at h
  split at h
  · rename_i z i
    obtain ⟨rfl, _⟩ := rb
    obtain ⟨fs, rs, _⟩ := ra.get e ga
    obtain ⟨rfl, _⟩ := rs
    split at h
    · rename_i hl
      cases hc : atI z.cps.toList i with
      | none => rw [hc] at h; cases h
      | some c =>
        rw [hc] at h
        cases h
        exact .inr (.inr ⟨z, i, c, rfl, rfl, hl, hc, q _ ⟨rfl, rfl⟩⟩)
    · cases h
  · rename_i ns i
    obtain ⟨rfl, _⟩ := rb
    obtain ⟨fs, rs, _⟩ := ra.get e ga
    obtain ⟨a, rfl, sq⟩ := fro_sq rs
    cases hc : atI ns i with
    | none => rw [hc] at h; cases h
    | some n =>
      rw [hc] at h
      cases h
      refine .inl ⟨a, ns.map .int, i, .int n, rfl, rfl, sq, ?_, q _ ⟨rfl, rfl⟩⟩
      unfold atI at hc ⊢
      rw [List.length_map]
      cases hk : ixN ns.length i with
      | none => rw [hk] at hc; cases hc
      | some k =>
        rw [hk] at hc
        simp only [Option.bind_some] at hc ⊢
        rw [List.getElem?_map, hc]; rfl
  · obtain ⟨rfl, _⟩ := rb
    exact seq (.inl rfl) h
  · obtain ⟨rfl, _⟩ := rb
    exact seq (.inr rfl) h
  · cases h
end
theorem two_of {K : PySem.W.Frag} {ρ : Rho} {fp : Fp} {σ : L2.St} {H : Hp} {oa ob : O} {vs : List V} {fo : List Addr} (h : ORs K ρ fp σ H [oa, ob] vs fo) : ∃ x y f g, vs = [x, y] ∧ fo = f ++ g ∧ OR K ρ fp σ H oa x f ∧ OR K ρ fp σ H ob y g := by
  obtain ⟨x, ws, f1', f2', rfl, rfl, o1, y, ws', f3', f4', rfl, rfl, o2, rfl, rfl⟩ := h
  exact ⟨x, y, f1', f3', rfl, by simp, o1, o2⟩
def eIx (a b : Ex) : Ex where
  sem := ixSem a.sem b.sem
  m := fun N sc cm e => match e with
    | .Subscript x y _ => notSlice y && (a.m N sc cm x && b.m N sc cm y)
    | _ => false
  pre := fun Γ k => a.pre Γ k ∧ b.pre Γ k
  snd := fun {X xi N sc lvl cm W x} g p h => by
    split at h
    · simp only [Bool.and_eq_true] at h
      refine PE.to (pe_ix ix_seq (a.snd g p.1 h.2.1) (b.snd g p.2 h.2.2) (plainIx_of h.1)) fun σ H Q hq => ?_
      obtain ⟨ρ, fp, e, hq⟩ := hq
      show nest X.K xi W [a.sem, b.sem] σ H fun vs H1 => rr (rIx X.K) vs H1 Q
      refine nest_of ⟨ρ, fp, e, ?_⟩
      simp only [ixSem] at hq
      cases hs : evL [a.sem, b.sem] ρ with
      | stuck => rw [hs] at hq; exact hq
      | ex c t ρ' => rw [hs] at hq; exact hq
      | ok os ρ1 τ1 =>
        rw [hs] at hq
        intro vs H1 fp1 fo1 e1 s1 q1 o1
        rcases os with _ | ⟨oa, _ | ⟨ob, _ | ⟨oc, os⟩⟩⟩
        · exact hq.elim
        · exact hq.elim
        · simp only at hq
          obtain ⟨x, y, f, g', rfl, rfl, ra, rb⟩ := two_of o1
          cases ga : getO ρ1 oa with
          | none => rw [ga] at hq; exact hq.elim
          | some s =>
            cases gb : getO ρ1 ob with
            | none => rw [ga, gb] at hq; exact hq.elim
            | some t =>
              rw [ga, gb] at hq
              simp only at hq
              cases hx : ixO ρ1 oa s t with
              | none => rw [hx] at hq; exact hq.elim
              | some o =>
                rw [hx] at hq
                obtain ⟨fb, rb', _⟩ := rb.get e1 gb
                exact ix_ok e1 ra ga rb' hx fun v rv => hq v H1 fp1 [] e1 s1.drop q1 rv
        · exact hq.elim
    · cases h

/-! ### slices -/
def cutL {α : Type} (xs : List α) (lo hi : Option Int) : List α := (xs.drop (HT.sIx xs.length 0 lo)).take (HT.sIx xs.length xs.length hi - HT.sIx xs.length 0 lo)
def sliceT (lo hi : Option Int) : T → Option T
  | .str z => if z.length ≤ sizeLine then some (.str (cutS z lo hi)) else none
  | .tup ts => if T.imms ts = true then some (.tup (cutL ts lo hi)) else none
  | .lst ts => if T.imms ts = true then some (.lst (cutL ts lo hi)) else none
  | .fro ns => some (.lst ((cutL ns lo hi).map .int))
  | _ => none
theorem reps_cut {K : PySem.W.Frag} {H : Hp} {ts : List T} {vs : List V} (r : Reps K H ts vs []) (lo hi : Option Int) : Reps K H (cutL ts lo hi) (cutV vs lo hi) [] := by
  unfold cutL cutV
  rw [r.len]
  obtain ⟨f1, f2, e, _, r2⟩ := Reps.take (HT.sIx ts.length 0 lo) r
  obtain ⟨rfl, rfl⟩ : f1 = [] ∧ f2 = [] := by simpa using e.symm
  obtain ⟨g1, g2, e2, r3, _⟩ := Reps.take (HT.sIx ts.length ts.length hi - HT.sIx ts.length 0 lo) r2
  obtain ⟨rfl, rfl⟩ : g1 = [] ∧ g2 = [] := by simpa using e2.symm
  exact r3
theorem reps_ints {K : PySem.W.Frag} {H : Hp} : ∀ ns : List Int, Reps K H (ns.map .int) (ns.map .int) []
  | [] => ⟨rfl, rfl⟩
  | n :: ns => ⟨.int n, ns.map .int, [], [], rfl, rfl, ⟨rfl, rfl⟩, reps_ints ns⟩
def rSl3 (K : PySem.W.Frag) : V → Option Int → Option Int → Hp → VK → Prop := fun x lo hi H Q => rSlL K x lo hi H Q ∨ (rSlA K x lo hi H Q ∨ rSlS x lo hi H Q)
theorem sl_all {X : Cx} : SlR X (rSl3 X.K) := sl_list.or (sl_tupA.or sl_str)
theorem slice_ok {K : PySem.W.Frag} {H : Hp} {s u : T} {x : V} {fx : List Addr} {lo hi : Option Int} {Q : V → Hp → Prop} (h : sliceT lo hi s = some u) (r : Rep K H s x fx) (p : PureRes K H [] u Q) : rSl3 K x lo hi H Q := by
  cases s with
  | str z =>
    obtain ⟨rfl, _⟩ := r
    simp only [sliceT] at h
    split at h
    · rename_i c; cases h; exact .inr (.inr ⟨z, rfl, c, p.v ⟨rfl, rfl⟩⟩)
    · cases h
  | tup ts =>
    obtain ⟨a, vs, rfl, sq, r⟩ := r
    simp only [sliceT] at h
    split at h
    · rename_i c
      cases h
      have z := r.imm_nil c
      subst z
      refine .inr (.inl ⟨a, vs, rfl, SqT.of sq, fun w => p.v ⟨a, vs, rfl, sq, ?_⟩, fun _ => p.tup (reps_cut r lo hi) (fun _ z => by cases z) .nil⟩)
      have e1 : cutV vs lo hi = vs := by unfold cutV; rw [w.1, w.2]; simp
      have := reps_cut r lo hi
      rw [e1] at this
      exact this
    · cases h
  | lst ts =>
    obtain ⟨a, vs, g, rfl, _, sq, r⟩ := r
    simp only [sliceT] at h
    split at h
    · rename_i c
      cases h
      have z := r.imm_nil c
      subst z
      exact .inl ⟨a, vs, rfl, SqL.of sq, p.lst (reps_cut r lo hi) (fun _ z => by cases z) .nil⟩
    · cases h
  | fro ns =>
    obtain ⟨a, rfl, sq⟩ := fro_sq r
    cases h
    refine .inl ⟨a, ns.map .int, rfl, sq, ?_⟩
    have e1 : cutV (ns.map V.int) lo hi = (cutL ns lo hi).map .int := by
      unfold cutV cutL
      rw [List.length_map, List.map_take, List.map_drop]
    rw [e1]
    exact p.lst (reps_ints _) (fun _ z => by cases z) .nil
  | _ => cases h
theorem tE.mono {K : PySem.W.Frag} {xi : XI} {W : WX} {s : Rho → R} {σ : L2.St} {H : Hp} {Q Q' : VK} (w : ∀ v H, Q v H → Q' v H) (h : tE K xi W s σ H Q) : tE K xi W s σ H Q' := by
  obtain ⟨ρ, fp, e, h⟩ := h
  refine ⟨ρ, fp, e, ?_⟩
  cases hs : s ρ with
  | stuck => rw [hs] at h; exact h
  | ex c t ρ' => rw [hs] at h; exact h
  | ok o ρ' τ => rw [hs] at h; exact fun v H' fp' fo e' s' q' r' => w _ _ (h v H' fp' fo e' s' q' r')
/-- its value is an int -/
def intSem (s : Rho → R) : Rho → R := fun ρ => match s ρ with
  | .ok o ρ' τ => match getO ρ' o with
    | some (.int i) => .ok (.v (.int i)) ρ' τ
    | _ => .stuck
  | x => x
theorem int_to {K : PySem.W.Frag} {xi : XI} {W : WX} {s : Rho → R} {σ : L2.St} {H : Hp} {Q : VK} (h : tE K xi W (intSem s) σ H Q) : tE K xi W s σ H fun x H1 => ∃ i, x = .int i ∧ Q (.int i) H1 := by
  obtain ⟨ρ, fp, e, h⟩ := h
  refine ⟨ρ, fp, e, ?_⟩
  simp only [intSem] at h
  cases hs : s ρ with
  | stuck => rw [hs] at h; exact h
  | ex c t ρ' => rw [hs] at h; exact h
  | ok o ρ' τ =>
    rw [hs] at h
    simp only at h
    cases hg : getO ρ' o with
    | none => rw [hg] at h; exact h.elim
    | some t =>
      rw [hg] at h
      cases t <;> first | exact (show False from h).elim | skip
      rename_i i
      intro v H' fp' fo e' s' q' r'
      obtain ⟨f, rf, _⟩ := r'.get e' hg
      exact ⟨i, rf.1, h _ H' fp' [] e' s'.drop q' ⟨rfl, rfl⟩⟩
/-- x[lo:hi], x[lo:], x[:hi] -/
def sl2F (s a b : T) : Option T := match a, b with
  | .int i, .int j => sliceT (some i) (some j) s
  | _, _ => none
def slLF (s a : T) : Option T := match a with
  | .int i => sliceT (some i) none s
  | _ => none
def slHF (s a : T) : Option T := match a with
  | .int i => sliceT none (some i) s
  | _ => none
def r2S (K : PySem.W.Frag) : List V → Hp → VK → Prop
  | [x, .int i, .int j], H, Q => rSl3 K x (some i) (some j) H Q
  | _, _, _ => False
def rLS (K : PySem.W.Frag) : List V → Hp → VK → Prop
  | [x, .int i], H, Q => rSl3 K x (some i) none H Q
  | _, _, _ => False
def rHS (K : PySem.W.Frag) : List V → Hp → VK → Prop
  | [x, .int i], H, Q => rSl3 K x none (some i) H Q
  | _, _, _ => False
def eSl2 (a lo hi : Ex) : Ex where
  sem := opSem [a.sem, intSem lo.sem, intSem hi.sem] (f3 sl2F)
  m := fun N sc cm e => match e with
    | .Subscript x (.Slice (some y) (some z) none _) _ => a.m N sc cm x && (lo.m N sc cm y && hi.m N sc cm z)
    | _ => false
  pre := fun Γ k => a.pre Γ k ∧ lo.pre Γ k ∧ hi.pre Γ k
  snd := fun {X xi N sc lvl cm W x} g p h => by
    split at h
    · simp only [Bool.and_eq_true] at h
      refine PE.to (pe_slice sl_all (a.snd g p.1 h.1) (po_some (lo.snd g p.2.1 h.2.1)) (po_some (hi.snd g p.2.2 h.2.2))) fun σ H Q hq => ?_
      have z := op_to (r := r2S X.K) (ok3 fun H s t u z x y w fx fy fw hg rx ry rw' Q p => by
        unfold sl2F at hg
        split at hg
        · obtain ⟨rfl, _⟩ := ry
          obtain ⟨rfl, _⟩ := rw'
          exact slice_ok hg rx p
        · cases hg) hq
      refine tE.mono (fun x H1 z => ?_) z
      refine tE.mono (fun y H2 z => ?_) (int_to z)
      obtain ⟨i, rfl, z⟩ := z
      refine ⟨i, rfl, tE.mono (fun w H3 z => ?_) (int_to z)⟩
      obtain ⟨j, rfl, z⟩ := z
      exact ⟨j, rfl, z⟩
    · cases h
def eSlL (a lo : Ex) : Ex where
  sem := opSem [a.sem, intSem lo.sem] (f2 slLF)
  m := fun N sc cm e => match e with
    | .Subscript x (.Slice (some y) none none _) _ => a.m N sc cm x && lo.m N sc cm y
    | _ => false
  pre := fun Γ k => a.pre Γ k ∧ lo.pre Γ k
  snd := fun {X xi N sc lvl cm W x} g p h => by
    split at h
    · simp only [Bool.and_eq_true] at h
      refine PE.to (pe_slice sl_all (a.snd g p.1 h.1) (po_some (lo.snd g p.2 h.2)) po_none) fun σ H Q hq => ?_
      have z := op_to (r := rLS X.K) (ok2 fun H s t u x y fx fy hg rx ry Q p => by
        unfold slLF at hg
        split at hg
        · obtain ⟨rfl, _⟩ := ry
          exact slice_ok hg rx p
        · cases hg) hq
      refine tE.mono (fun x H1 z => ?_) z
      refine tE.mono (fun y H2 z => ?_) (int_to z)
      obtain ⟨i, rfl, z⟩ := z
      exact ⟨i, rfl, z⟩
    · cases h
def eSlH (a hi : Ex) : Ex where
  sem := opSem [a.sem, intSem hi.sem] (f2 slHF)
  m := fun N sc cm e => match e with
    | .Subscript x (.Slice none (some y) none _) _ => a.m N sc cm x && hi.m N sc cm y
    | _ => false
  pre := fun Γ k => a.pre Γ k ∧ hi.pre Γ k
  snd := fun {X xi N sc lvl cm W x} g p h => by
    split at h
    · simp only [Bool.and_eq_true] at h
      refine PE.to (pe_slice sl_all (a.snd g p.1 h.1) po_none (po_some (hi.snd g p.2 h.2))) fun σ H Q hq => ?_
      have z := op_to (r := rHS X.K) (ok2 fun H s t u x y fx fy hg rx ry Q p => by
        unfold slHF at hg
        split at hg
        · obtain ⟨rfl, _⟩ := ry
          exact slice_ok hg rx p
        · cases hg) hq
      refine tE.mono (fun x H1 z => ?_) z
      refine tE.mono (fun y H2 z => ?_) (int_to z)
      obtain ⟨i, rfl, z⟩ := z
      exact ⟨i, rfl, z⟩
    · cases h

/-! ### displays -/
def allV : List O → Option (List T)
  | [] => some []
  | .v t :: os => match allV os with
    | some ts => some (t :: ts)
    | none => none
  | _ => none
theorem allV_reps {K : PySem.W.Frag} {ρ : Rho} {fp : Fp} {σ : L2.St} {H : Hp} : ∀ {os : List O} {ts : List T} {vs : List V} {fo : List Addr}, allV os = some ts → ORs K ρ fp σ H os vs fo → Reps K H ts vs fo
  | [], _, _, _, h, o => by cases h; exact o
  | .p _ _ :: _, _, _, _, h, _ => by cases h
  | .v t :: os, ts, vs, fo, h, o => by
    obtain ⟨v, ws, f1, f2, rfl, rfl, r, o⟩ := o
    simp only [allV] at h
    cases e : allV os with
    | none => rw [e] at h; cases h
    | some us =>
      rw [e] at h
      cases h
      exact ⟨v, ws, f1, f2, rfl, rfl, r, allV_reps e o⟩
def tupF (_ : Rho) (os : List O) : Option T := match allV os with
  | some ts => if ts.length ≤ 10000 then some (.tup ts) else none
  | none => none
def lstF (_ : Rho) (os : List O) : Option T := match allV os with
  | some ts => if ts.length ≤ 10000 then some (.lst ts) else none
  | none => none
theorem line_10000 {n : Nat} (h : n ≤ 10000) : n ≤ sizeLine := Nat.le_trans h (by decide)
def eTup (a : Xs) : Ex where
  sem := opSem a.sems tupF
  m := fun N sc cm e => match e with
    | .Tuple es _ _ => a.m N sc cm es
    | _ => false
  pre := a.pre
  snd := fun {X xi N sc lvl cm W x} g p h => by
    split at h
    · refine PE.to (pe_tup (a.snd g p h)) fun σ H Q hq => op_to (r := fun xs H Q => xs.length ≤ sizeLine ∧ ∀ p, H p = none → Q (.ref p) (upd H p (.tup xs))) (fun ρ fp σ H os vs fo t e o nd hf Q p => ?_) hq
      unfold tupF at hf
      split at hf
      · rename_i ts ht
        split at hf
        · rename_i c
          cases hf
          have r := allV_reps ht o
          exact ⟨by rw [r.len]; exact line_10000 c, p.tup r (fun _ z => z) nd⟩
        · cases hf
      · cases hf
    · cases h
def eLst (a : Xs) : Ex where
  sem := opSem a.sems lstF
  m := fun N sc cm e => match e with
    | .List es _ => a.m N sc cm es
    | _ => false
  pre := a.pre
  snd := fun {X xi N sc lvl cm W x} g p h => by
    split at h
    · refine PE.to (pe_lst (a.snd g p h)) fun σ H Q hq => op_to (r := fun xs H Q => xs.length ≤ sizeLine ∧ ∀ p, H p = none → Q (.ref p) (upd H p (.lst xs))) (fun ρ fp σ H os vs fo t e o nd hf Q p => ?_) hq
      unfold lstF at hf
      split at hf
      · rename_i ts ht
        split at hf
        · rename_i c
          cases hf
          have r := allV_reps ht o
          exact ⟨by rw [r.len]; exact line_10000 c, p.lst r (fun _ z => z) nd⟩
        · cases hf
      · cases hf
    · cases h

/-! ### calls of built-ins by name -/
def noStars : List Expr → Bool
  | [] => true
  | e :: es => notStar e && noStars es
theorem anyStar_of {env : PySem.Env} {pos : Pos} : ∀ {es : List Expr}, noStars es = true → (backTo pos (starEach es env)).any (·.1) = false
  | [], _ => rfl
  | e :: es, h => by
    simp only [noStars, Bool.and_eq_true] at h
    rw [starEach_of h.1]
    show (false || (backTo pos (starEach es env)).any (·.1)) = false
    rw [anyStar_of h.2]; rfl
def callM (x : Str) (a : Xs) (N : List Str) (sc : Scope) (cm : Bool) : Expr → Bool
  | .Call (.Name y _) (e :: es) [] _ => decide (y = x) && (glB sc y && (notStar e && (noStars es && a.m N sc cm (e :: es))))
  | _ => false
/-- a built-in function that changes nothing -/
def eCB (x : Str) (id : String) (hv : bootBuiltins x = some (.builtin id)) (a : Xs) (f : Rho → List O → Option T) (hr : ∀ X : Cx, X.A.units + 100 < cLine → ∃ r, CallR X (.builtin id) r ∧ OpOkL X.K f r) : Ex where
  sem := opSem a.sems f
  m := callM x a
  pre := fun Γ k => Γ.mg x = none ∧ a.pre Γ k
  snd := fun {X xi N sc lvl cm W e} g p h => by
    unfold callM at h
    split at h
    · simp only [Bool.and_eq_true, decide_eq_true_eq] at h
      obtain ⟨rfl, h1, h2, h3, h4⟩ := h
      have G := gl_of g.hsc h1
      obtain ⟨r, hr, ok⟩ := hr X g.un
      exact PE.to (pe_callB hr G.gl p.1 hv (a.snd g p.2 h4) G.nn G.db (starEach_of h2) (anyStar_of h3)) fun σ H Q hq => op_to ok hq
    · cases h
def eCT (x : Str) (id : String) (hv : bootBuiltins x = some (.type id)) (a : Xs) (f : Rho → List O → Option T) (hr : ∀ X : Cx, X.A.units + 100 < cLine → ∃ r, CallR X (.type id) r ∧ OpOkL X.K f r) : Ex where
  sem := opSem a.sems f
  m := callM x a
  pre := fun Γ k => Γ.mg x = none ∧ a.pre Γ k
  snd := fun {X xi N sc lvl cm W e} g p h => by
    unfold callM at h
    split at h
    · simp only [Bool.and_eq_true, decide_eq_true_eq] at h
      obtain ⟨rfl, h1, h2, h3, h4⟩ := h
      have G := gl_of g.hsc h1
      obtain ⟨r, hr, ok⟩ := hr X g.un
      exact PE.to (pe_callTy hr G.gl p.1 hv (a.snd g p.2 h4) G.nn G.db (starEach_of h2) (anyStar_of h3)) fun σ H Q hq => op_to ok hq
    · cases h
def lenT : T → Option T
  | .str z => if z.length ≤ sizeLine then some (.int z.length) else none
  | .lst ts => some (.int ts.length)
  | .tup ts => some (.int ts.length)
  | .fro ns => some (.int ns.length)
  | _ => none
def eLen (a : Ex) : Ex := eCB "len" "len" (by decide +kernel) (xs [a]) (f1 lenT) fun X hu => ⟨_, call_len, ok1 fun H s u x fx hg rx Q p => by
  cases s with
  | str z =>
    obtain ⟨rfl, _⟩ := rx
    simp only [lenT] at hg
    split at hg
    · rename_i c; cases hg; exact ⟨_, _, rfl, ⟨c, rfl⟩, p.v ⟨rfl, rfl⟩⟩
    · cases hg
  | lst ts =>
    obtain ⟨a, vs, g, rfl, _, sq, r⟩ := rx
    cases hg
    exact ⟨_, _, rfl, .inl ⟨vs, SqL.of sq, rfl⟩, p.v ⟨by rw [r.len], rfl⟩⟩
  | tup ts =>
    obtain ⟨a, vs, rfl, sq, r⟩ := rx
    cases hg
    exact ⟨_, _, rfl, .inr ⟨vs, SqT.of sq, rfl⟩, p.v ⟨by rw [r.len], rfl⟩⟩
  | fro ns =>
    obtain ⟨a, rfl, sq⟩ := fro_sq rx
    cases hg
    exact ⟨_, _, rfl, .inl ⟨_, sq, rfl⟩, p.v ⟨by rw [List.length_map], rfl⟩⟩
  | _ => cases hg⟩
def tupleT : T → Option T
  | .lst ts => if T.imms ts = true then some (.tup ts) else none
  | .tup ts => if T.imms ts = true then some (.tup ts) else none
  | .fro ns => some (.tup (ns.map .int))
  | _ => none
def listT : T → Option T
  | .lst ts => if T.imms ts = true then some (.lst ts) else none
  | .tup ts => if T.imms ts = true then some (.lst ts) else none
  | .fro ns => some (.lst (ns.map .int))
  | _ => none
def eTuple (a : Ex) : Ex := eCT "tuple" "tuple" (by decide +kernel) (xs [a]) (f1 tupleT) fun X hu => ⟨_, call_tuple_of, ok1 fun H s u x fx hg rx Q p => by
  cases s with
  | lst ts =>
    obtain ⟨a, vs, g, rfl, _, sq, r⟩ := rx
    simp only [tupleT] at hg
    split at hg
    · rename_i c
      cases hg
      have z := r.imm_nil c
      subst z
      exact ⟨a, vs, rfl, .inl ⟨SqL.of sq, p.tup r (fun _ z => by cases z) .nil⟩⟩
    · cases hg
  | tup ts =>
    obtain ⟨a, vs, rfl, sq, r⟩ := rx
    simp only [tupleT] at hg
    split at hg
    · rename_i c
      cases hg
      have z := r.imm_nil c
      subst z
      exact ⟨a, vs, rfl, .inr ⟨SqT.of sq, p.v ⟨a, vs, rfl, sq, r⟩⟩⟩
    · cases hg
  | fro ns =>
    obtain ⟨a, rfl, sq⟩ := fro_sq rx
    cases hg
    exact ⟨a, _, rfl, .inl ⟨sq, p.tup (reps_ints _) (fun _ z => by cases z) .nil⟩⟩
  | _ => cases hg⟩
def eList (a : Ex) : Ex := eCT "list" "list" (by decide +kernel) (xs [a]) (f1 listT) fun X hu => ⟨_, call_list_of, ok1 fun H s u x fx hg rx Q p => by
  cases s with
  | lst ts =>
    obtain ⟨a, vs, g, rfl, _, sq, r⟩ := rx
    simp only [listT] at hg
    split at hg
    · rename_i c
      cases hg
      have z := r.imm_nil c
      subst z
      exact ⟨a, vs, rfl, .inl (SqL.of sq), p.lst r (fun _ z => by cases z) .nil⟩
    · cases hg
  | tup ts =>
    obtain ⟨a, vs, rfl, sq, r⟩ := rx
    simp only [listT] at hg
    split at hg
    · rename_i c
      cases hg
      have z := r.imm_nil c
      subst z
      exact ⟨a, vs, rfl, .inr (SqT.of sq), p.lst r (fun _ z => by cases z) .nil⟩
    · cases hg
  | fro ns =>
    obtain ⟨a, rfl, sq⟩ := fro_sq rx
    cases hg
    exact ⟨a, _, rfl, .inl sq, p.lst (reps_ints _) (fun _ z => by cases z) .nil⟩
  | _ => cases hg⟩
/-- int(n) of an int -/
def intT : T → Option T
  | .int i => some (.int i)
  | _ => none
def eIntOf (a : Ex) : Ex := eCT "int" "int" (by decide +kernel) (xs [a]) (f1 intT) fun X hu => ⟨_, call_int1, ok1 fun H s u x fx hg rx Q p => by
  unfold intT at hg
  split at hg <;> cases hg
  obtain ⟨rfl, _⟩ := rx
  exact .inl ⟨_, rfl, p.v ⟨rfl, rfl⟩⟩⟩

/-! ### own defs -/
structure Fn where
  name : Str
  np : Nat
  φ : List T → FR
/-- the def stands, and keeps what is said of it at this level -/
def Has (Γ : Gm) (lvl : Nat) (F : Fn) : Prop := ∃ f fd ps, Γ.mg F.name = some (.ref f) ∧ PySem.W.keepIn Γ.K (.ref f) = true ∧ Binds Γ.K fd ps [] ∧ FnOk Γ.P Γ.w Γ.K Γ.mg Γ.base (L2.CX Γ.P Γ.w) lvl f fd ps (spF Γ.K Γ.xi F.np F.φ)
theorem Has.mono {Γ : Gm} {j k : Nat} {F : Fn} (h : Has Γ j F) (l : j ≤ k) : Has Γ k F := by
  obtain ⟨f, fd, ps, h1, h2, h3, h4⟩ := h
  exact ⟨f, fd, ps, h1, h2, h3, h4.mono l⟩
def eCall (F : Fn) (a : Xs) : Ex where
  sem := effSem F.np a.sems F.φ
  m := fun N sc cm e => cm && callM F.name a N sc cm e
  pre := fun Γ k => Has Γ k F ∧ a.pre Γ k
  snd := fun {X xi N sc lvl cm W e} g p h => by
    simp only [Bool.and_eq_true] at h
    obtain ⟨hc, h⟩ := h
    unfold callM at h
    split at h
    · simp only [Bool.and_eq_true, decide_eq_true_eq] at h
      obtain ⟨rfl, h1, h2, h3, h4⟩ := h
      have G := gl_of g.hsc h1
      obtain ⟨⟨f, fd, ps, k1, k2, k3, k4⟩, pa⟩ := p
      exact PE.to (pe_callS k4 (g.room hc) G.gl k1 k2 k3 (fun σ => passAt g.tk σ) (a.snd g pa h4) G.db (starEach_of h2) (anyStar_of h3)) fun σ H Q hq =>
        eff_to (r := fun σ vs H Q => spF X.K xi F.np F.φ vs H Q (WE W σ)) (fun vs H Q z => z) hq
    · cases h
end Pv
set_option Elab.async false
set_option linter.all false
set_option maxRecDepth 100000
set_option maxHeartbeats 2000000
/-! Pv part H: methods. -/
namespace Pv
open PySem L2

def notCall0 : Expr → Bool
  | .Call _ [] [] _ => false
  | _ => true
theorem base_of {o : Expr} {attr : Str} {env : PySem.Env} {whole : Sem Value} (h : notCall0 o = true) : attributeBase o attr env whole = whole := by
  unfold attributeBase
  cases o <;> try rfl
  rename_i f as kw p
  cases f <;> try rfl
  cases as <;> try rfl
  cases kw <;> first | rfl | cases h
def kindSem (p : T → Bool) (s : Rho → R) : Rho → R := fun ρ => match s ρ with
  | .ok o ρ' τ => match getO ρ' o with
    | some t => if p t = true then .ok o ρ' τ else .stuck
    | none => .stuck
  | x => x
theorem kind_to {K : PySem.W.Frag} {xi : XI} {W : WX} {p : T → Bool} {C : V → Hp → Prop} (hp : ∀ H t v f, p t = true → Rep K H t v f → C v H) {s : Rho → R} {σ : L2.St} {H : Hp} {Q : VK} (h : tE K xi W (kindSem p s) σ H Q) :
    tE K xi W s σ H fun x H1 => C x H1 ∧ Q x H1 := by
  obtain ⟨ρ, fp, e, h⟩ := h
  refine ⟨ρ, fp, e, ?_⟩
  simp only [kindSem] at h
  cases hs : s ρ with
  | stuck => rw [hs] at h; exact h
  | ex c t ρ' => rw [hs] at h; exact h
  | ok o ρ' τ =>
    rw [hs] at h
    simp only at h
    cases hg : getO ρ' o with
    | none => rw [hg] at h; exact h.elim
    | some t =>
      rw [hg] at h
      simp only at h
      by_cases c : p t = true
      · rw [if_pos c] at h
        intro v H' fp' fo e' s' q' r'
        obtain ⟨f, rf, _⟩ := r'.get e' hg
        exact ⟨hp _ _ _ _ c rf, h v H' fp' fo e' s' q' r'⟩
      · rw [if_neg c] at h; exact h.elim
def isLst : T → Bool
  | .lst _ => true
  | _ => false
def isStr : T → Bool
  | .str _ => true
  | _ => false
theorem ty_lst {K : PySem.W.Frag} (H : Hp) (t : T) (v : V) (f : List Addr) (c : isLst t = true) (r : Rep K H t v f) : tyV K "list" v H := by
  cases t <;> first | cases c | skip
  obtain ⟨a, vs, g, rfl, _, h, _⟩ := r
  exact .inl ⟨rfl, vs, SqL.of h⟩
theorem ty_str {K : PySem.W.Frag} (H : Hp) (t : T) (v : V) (f : List Addr) (c : isStr t = true) (r : Rep K H t v f) : tyV K "str" v H := by
  cases t <;> first | cases c | skip
  rw [r.1]
  rfl
def rm (r : V → List V → Hp → VK → Prop) : List V → Hp → VK → Prop
  | x :: xs, H, Q => r x xs H Q
  | [], _, _ => False

/-- the syntax of o.name(args): one or two arguments -/
def methM (name : Str) (o : Ex) (a : Xs) (N : List Str) (sc : Scope) (cm : Bool) : Expr → Bool
  | .Call (.Attribute x y apos) (e :: es) [] cpos => decide (y = name) && (notCall0 x && ((apos.endLine == cpos.line) && (o.m N sc cm x && (a.m N sc cm (e :: es) && (noStars (e :: es) && decide (es.length < 2))))))
  | _ => false
theorem pe_meth1 {X : Cx} {T id : String} {name : Str} {r : V → List V → Hp → VK → Prop} {o e : Expr} {es : List Expr} {to : TE} {t : TA} {apos cpos : Pos} (pa : PlainAttrs T) (slot : Slot T name id) (hty : typeOf (.builtin id) = pure (.type "method_descriptor")) (hm : MtR X id r)
    (ho : PE X o to) (ha : PA X (e :: es) t) (h0 : notCall0 o = true) (hline : (apos.endLine == cpos.line) = true) (hs : noStars (e :: es) = true) (hl : es.length < 2) :
    PE X (.Call (.Attribute o name apos) (e :: es) [] cpos) (tBM X.K T r to t) := by
  simp only [noStars, Bool.and_eq_true] at hs
  refine pe_bm pa slot hty hm ho ha (base_of h0) ?_ hline (starEach_of hs.1) (anyStar_of hs.2)
  cases es with
  | nil => rw [starEach_of hs.1]; rfl
  | cons e2 es =>
    cases es with
    | nil =>
      simp only [noStars, Bool.and_eq_true] at hs
      rw [starEach_of hs.1, starEach_of hs.2.1]; rfl
    | cons e3 es => simp only [List.length_cons] at hl; omega
/-- a method that changes nothing, with arguments -/
def eMP (T id : String) (name : Str) (kd : Pv.T → Bool) (tk : ∀ (K : PySem.W.Frag) H t v f, kd t = true → Rep K H t v f → tyV K T v H) (pa : PlainAttrs T) (slot : Slot T name id) (hty : typeOf (.builtin id) = pure (.type "method_descriptor"))
    (o : Ex) (a : Xs) (f : Rho → List O → Option Pv.T) (hr : ∀ X : Cx, X.A.units + 100 < cLine → ∃ r, MtR X id r ∧ OpOkL X.K f (rm r)) : Ex where
  sem := opSem (kindSem kd o.sem :: a.sems) f
  m := methM name o a
  pre := fun Γ k => o.pre Γ k ∧ a.pre Γ k
  snd := fun {X xi N sc lvl cm W e} g p h => by
    unfold methM at h
    split at h
    · simp only [Bool.and_eq_true, decide_eq_true_eq] at h
      obtain ⟨rfl, h0, h1, h2, h3, h4, h5⟩ := h
      obtain ⟨r, hr, ok⟩ := hr X g.un
      exact PE.to (pe_meth1 pa slot hty hr (o.snd g p.1 h2) (a.snd g p.2 h3) h0 h1 h4 h5) fun σ H Q hq => kind_to (tk X.K) (op_to ok hq)
    · cases h
/-- a method that changes its list, with arguments -/
def eME (T id : String) (name : Str) (kd : Pv.T → Bool) (tk : ∀ (K : PySem.W.Frag) H t v f, kd t = true → Rep K H t v f → tyV K T v H) (pa : PlainAttrs T) (slot : Slot T name id) (hty : typeOf (.builtin id) = pure (.type "method_descriptor"))
    (o : Ex) (a : Xs) (n : Nat) (φ : List Pv.T → FR) (hr : ∀ (X : Cx) (xi : XI), ∃ r, MtR X id r ∧ ∀ vs H Q E, spF X.K xi n φ vs H Q E → rm r vs H Q) : Ex where
  sem := effSem n (kindSem kd o.sem :: a.sems) φ
  m := methM name o a
  pre := fun Γ k => o.pre Γ k ∧ a.pre Γ k
  snd := fun {X xi N sc lvl cm W e} g p h => by
    unfold methM at h
    split at h
    · simp only [Bool.and_eq_true, decide_eq_true_eq] at h
      obtain ⟨rfl, h0, h1, h2, h3, h4, h5⟩ := h
      obtain ⟨r, hm, ok⟩ := hr X xi
      exact PE.to (pe_meth1 pa slot hty hm (o.snd g p.1 h2) (a.snd g p.2 h3) h0 h1 h4 h5) fun σ H Q hq => kind_to (tk X.K) (eff_to (r := fun σ vs H Q => rm r vs H Q) (fun vs H Q z => ok vs H Q _ z) hq)
    · cases h
/-- .. without arguments -/
def eME0 (T id : String) (name : Str) (kd : Pv.T → Bool) (tk : ∀ (K : PySem.W.Frag) H t v f, kd t = true → Rep K H t v f → tyV K T v H) (pa : PlainAttrs T) (slot : Slot T name id) (hty : typeOf (.builtin id) = pure (.type "method_descriptor"))
    (o : Ex) (φ : List Pv.T → FR) (hr : ∀ (X : Cx) (xi : XI), ∃ r, MtR X id r ∧ ∀ vs H Q E, spF X.K xi 1 φ vs H Q E → rm r vs H Q) : Ex where
  sem := effSem 1 [kindSem kd o.sem] φ
  m := fun N sc cm e => match e with
    | .Call (.Attribute x y apos) [] [] cpos => decide (y = name) && (notCall0 x && ((apos.endLine == cpos.line) && o.m N sc cm x))
    | _ => false
  pre := o.pre
  snd := fun {X xi N sc lvl cm W e} g p h => by
    split at h
    · simp only [Bool.and_eq_true, decide_eq_true_eq] at h
      obtain ⟨rfl, h0, h1, h2⟩ := h
      obtain ⟨r, hm, ok⟩ := hr X xi
      exact PE.to (pe_bm0 pa slot hty hm (o.snd g p h2) (base_of h0) h1) fun σ H Q hq => kind_to (tk X.K) (eff_to (r := fun σ vs H Q => rm r vs H Q) (fun vs H Q z => ok vs H Q _ z) hq)
    · cases h

/-! ### the methods of lists -/
section
variable {K : PySem.W.Frag} {H : Hp} {a : Addr} {vs : List V} {o : HO}
theorem upd_keep : Keep (· = a) H (upd H a o) := fun b u e n => by rw [upd_ne n]; exact e
theorem lists_one (h : H a = some (.lst vs)) : Lists (· = a) H := fun b e => ⟨.lst vs, by rw [e]; exact h, True.intro⟩
end
def appendF : List T → FR
  | [.lst ts, t] => if ts.length < sizeLine then .ok .non [some (.lst (ts ++ [t])), none] else .stuck
  | _ => .stuck
def popF : List T → FR
  | [.lst ts] => match ts.getLast? with
    | some t => .ok t [some (.lst ts.dropLast)]
    | none => .stuck
  | _ => .stuck
def popAtF : List T → FR
  | [.lst ts, .int i] => match ixN ts.length i with
    | some k => match ts[k]? with
      | some t => .ok t [some (.lst (ts.eraseIdx k)), some (.int i)]
      | none => .stuck
    | none => .stuck
  | _ => .stuck
def extendF : List T → FR
  | [.lst ts, .lst us] => if ts.length + us.length ≤ sizeLine then .ok .non [some (.lst (ts ++ us)), none] else .stuck
  | _ => .stuck
theorem env2 {K : PySem.W.Frag} {H : Hp} {s t : T} {x y : V} {fp : Fp} (e : Env K [some s, some t] fp [some x, some y] H) : Rep K H s x (fp 0) ∧ Rep K H t y (fp 1) ∧ (fp 0).Nodup ∧ (fp 1).Nodup ∧ ∀ a ∈ fp 0, a ∉ fp 1 := by
  obtain ⟨v, hv, r⟩ := e.rep 0 s rfl
  obtain ⟨w, hw, q⟩ := e.rep 1 t rfl
  have e1 : x = v := by simpa using hv
  have e2 : y = w := by simpa using hw
  subst e1 e2
  exact ⟨r, q, e.nd 0, e.nd 1, fun a h1 h2 => by have := e.dj 0 1 a h1 h2; omega⟩
theorem env1 {K : PySem.W.Frag} {H : Hp} {s : T} {x : V} {fp : Fp} (e : Env K [some s] fp [some x] H) : Rep K H s x (fp 0) ∧ (fp 0).Nodup := by
  obtain ⟨v, hv, r⟩ := e.rep 0 s rfl
  have e1 : x = v := by simpa using hv
  subst e1
  exact ⟨r, e.nd 0⟩
/-- one or two arguments behind: the list at a has changed -/
def fp1 (g : List Addr) : Fp
  | 0 => g
  | _ => []
theorem mkEnv1 {K : PySem.W.Frag} {H : Hp} {s : T} {x : V} {g : List Addr} {ρ : Rho} {σ : L2.St} (r : Rep K H s x g) (nd : g.Nodup) (hl : σ.length = ρ.length) (im : ∀ (i : Nat) (t : T), ρ[i]? = some (some t) → ∃ v, σ[i]? = some (some v) ∧ Rep K H t v []) : Env K (some s :: ρ) (fp1 g) (some x :: σ) H := by
  refine ⟨by simp [hl], fun i t h => ?_, fun i h => ?_, fun i => ?_, fun i j a h1 h2 => ?_⟩
  · cases i with
    | zero => have : s = t := by simpa using h
              subst this; exact ⟨x, rfl, r⟩
    | succ i =>
      obtain ⟨v, hv, q⟩ := im i t (by simpa using h)
      exact ⟨v, by simpa using hv, q⟩
  · cases i with
    | zero => exact absurd rfl (h s)
    | succ i => rfl
  · cases i with
    | zero => exact nd
    | succ i => exact .nil
  · cases i with
    | succ i => cases h1
    | zero =>
      cases j with
      | succ j => cases h2
      | zero => rfl
theorem in1 {g : List Addr} {a : Addr} (h : In (fp1 g) a) : a ∈ g := by
  obtain ⟨i, h⟩ := h
  cases i with
  | zero => exact h
  | succ i => cases h
theorem reps_last {K : PySem.W.Frag} {H : Hp} : ∀ {ts : List T} {vs : List V} {f : List Addr} {t : T}, Reps K H ts vs f → ts.getLast? = some t → ∃ v f1 f2, vs[vs.length - 1]? = some v ∧ f = f1 ++ f2 ∧ Rep K H t v f2 ∧ Reps K H ts.dropLast vs.dropLast f1
  | [], _, _, _, _, h => by simp at h
  | [s], _, _, t, r, h => by
    obtain ⟨v, ws, f1, f2, rfl, rfl, h1, rfl, rfl⟩ := r
    have e : s = t := by simpa using h
    subst e
    exact ⟨v, [], f1, rfl, by simp, h1, rfl, rfl⟩
  | s :: u :: ts, _, _, t, r, h => by
    obtain ⟨v, ws, f1, f2, rfl, rfl, h1, h2⟩ := r
    obtain ⟨w, g1, g2, a, rfl, c, d⟩ := reps_last (ts := u :: ts) h2 (by simpa using h)
    have hl : ws.length = ts.length + 1 := by simpa using h2.len
    cases ws with
    | nil => simp at hl
    | cons w0 ws =>
      refine ⟨w, f1 ++ g1, g2, by simpa using a, by simp, c, ?_⟩
      exact ⟨v, (w0 :: ws).dropLast, f1, g1, rfl, rfl, h1, by simpa using d⟩
theorem reps_erase {K : PySem.W.Frag} {H : Hp} {ts : List T} {vs : List V} {f : List Addr} {k : Nat} {t : T} (r : Reps K H ts vs f) (h : ts[k]? = some t) :
    ∃ v f1 g f2, vs[k]? = some v ∧ f = f1 ++ g ++ f2 ∧ Rep K H t v g ∧ Reps K H (ts.eraseIdx k) (vs.eraseIdx k) (f1 ++ f2) := by
  obtain ⟨v, f1, g, f2, a, b, c, d1, d2⟩ := Reps.get r h
  refine ⟨v, f1, g, f2, a, b, c, ?_⟩
  rw [List.eraseIdx_eq_take_drop_succ, List.eraseIdx_eq_take_drop_succ]
  exact Reps.append d1 d2
theorem append_ok (X : Cx) (xi : XI) : ∃ r, MtR X "list.append" r ∧ ∀ vs H Q E, spF X.K xi 2 appendF vs H Q E → rm r vs H Q := by
  refine ⟨_, mt_append, fun vs H Q E h => ?_⟩
  obtain ⟨ts, fp, hl, e, h⟩ := h
  rcases ts with _ | ⟨s, _ | ⟨t, _ | ⟨u, ts⟩⟩⟩ <;> simp at hl
  have hv : vs.length = 2 := by simpa using e.len
  rcases vs with _ | ⟨x, _ | ⟨y, _ | ⟨z, vs⟩⟩⟩ <;> simp at hv
  obtain ⟨r1, r2, n1, n2, d⟩ := env2 e
  cases s <;> first | exact (show False from h).elim | skip
  rename_i us
  simp only [appendF] at h
  by_cases c : us.length < sizeLine
  · rw [if_pos c] at h
    obtain ⟨a, ws, g, rfl, ef, ha, rs⟩ := r1
    rw [ef] at n1 d
    have na := List.nodup_cons.mp n1
    have k1 : ∀ b ∈ g, ¬ b = a := fun b hb z => na.1 (z ▸ hb)
    have k2 : ∀ b ∈ fp 1, ¬ b = a := fun b hb z => d a List.mem_cons_self (z ▸ hb)
    refine ⟨a, ws, y, rfl, rfl, ha, by rw [rs.len]; exact c, ?_⟩
    have kp : Keep (· = a) H (upd H a (.lst (ws ++ [y]))) := upd_keep
    have lo := lists_one ha
    have R : Rep X.K (upd H a (.lst (ws ++ [y]))) (.lst (us ++ [t])) (.ref a) (a :: (g ++ fp 1)) := ⟨a, ws ++ [y], g ++ fp 1, rfl, rfl, upd_same, Reps.append (rs.keep kp lo k1) (Reps.one (r2.keep kp lo k2))⟩
    have sub : ∀ b, b ∈ a :: (g ++ fp 1) → In fp b := fun b hb => by
      rcases List.mem_cons.mp hb with rfl | hb
      · exact ⟨0, by rw [ef]; exact List.mem_cons_self⟩
      · rcases List.mem_append.mp hb with hb | hb
        · exact ⟨0, by rw [ef]; exact List.mem_cons_of_mem _ hb⟩
        · exact ⟨1, hb⟩
    have nd : (a :: (g ++ fp 1)).Nodup := List.nodup_cons.mpr ⟨fun z => by
      rcases List.mem_append.mp z with z | z
      · exact na.1 z
      · exact d a List.mem_cons_self z, List.nodup_append.mpr ⟨na.2, n2, fun b hb c hc z => d b (List.mem_cons_of_mem _ hb) (z ▸ hc)⟩⟩
    refine h .non _ (fp1 (a :: (g ++ fp 1))) [] (mkEnv1 R nd rfl fun i t hi => ?_) ⟨fun b u hb hn => by rw [upd_ne (fun z => hn (by rw [z]; exact ⟨0, by rw [ef]; exact List.mem_cons_self⟩))]; exact hb, fun b hb => .inl ?_, .nil, fun _ hb => by cases hb⟩ ⟨rfl, rfl⟩
    · cases i with
      | zero => simp at hi
      | succ i => simp at hi
    · rcases hb with hb | hb
      · exact sub b (in1 hb)
      · cases hb
  · rw [if_neg c] at h; exact h.elim
theorem pop_ok (X : Cx) (xi : XI) : ∃ r, MtR X "list.pop" r ∧ ∀ vs H Q E, spF X.K xi 1 popF vs H Q E → rm r vs H Q := by
  refine ⟨_, mt_pop, fun vs H Q E h => ?_⟩
  obtain ⟨ts, fp, hl, e, h⟩ := h
  rcases ts with _ | ⟨s, _ | ⟨t, ts⟩⟩ <;> simp at hl
  have hv : vs.length = 1 := by simpa using e.len
  rcases vs with _ | ⟨x, _ | ⟨y, vs⟩⟩ <;> simp at hv
  obtain ⟨r1, n1⟩ := env1 e
  cases s <;> first | exact (show False from h).elim | skip
  rename_i us
  simp only [popF] at h
  cases hg : us.getLast? with
  | none => rw [hg] at h; exact h.elim
  | some t =>
    rw [hg] at h
    obtain ⟨a, ws, g, rfl, ef, ha, rs⟩ := r1
    rw [ef] at n1
    have na := List.nodup_cons.mp n1
    obtain ⟨v, f1, f2, hv1, rfl, rt, rd⟩ := reps_last rs hg
    have n2 := List.nodup_append.mp na.2
    refine ⟨a, ws, v, rfl, rfl, ha, hv1, ?_⟩
    have kp : Keep (· = a) H (upd H a (.lst ws.dropLast)) := upd_keep
    have lo := lists_one ha
    have R : Rep X.K (upd H a (.lst ws.dropLast)) (.lst us.dropLast) (.ref a) (a :: f1) := ⟨a, _, f1, rfl, rfl, upd_same, rd.keep kp lo fun b hb z => na.1 (z ▸ List.mem_append_left _ hb)⟩
    have sub : ∀ b, b ∈ a :: (f1 ++ f2) → In fp b := fun b hb => ⟨0, by rw [ef]; exact hb⟩
    refine h v _ (fp1 (a :: f1)) f2 (mkEnv1 R (List.nodup_cons.mpr ⟨fun z => na.1 (List.mem_append_left _ z), n2.1⟩) rfl fun i t hi => by simp at hi)
      ⟨fun b u hb hn => by rw [upd_ne (fun z => hn (by rw [z]; exact ⟨0, by rw [ef]; exact List.mem_cons_self⟩))]; exact hb, fun b hb => .inl ?_, n2.2.1, fun b hb hi => ?_⟩ (rt.keep kp lo fun b hb z => na.1 (z ▸ List.mem_append_right _ hb))
    · rcases hb with hb | hb
      · rcases List.mem_cons.mp (in1 hb) with rfl | z
        · exact sub b List.mem_cons_self
        · exact sub b (by simp [z])
      · exact sub b (by simp [hb])
    · rcases List.mem_cons.mp (in1 hi) with rfl | z
      · exact na.1 (List.mem_append_right _ hb)
      · exact n2.2.2 b z b hb rfl
theorem ixN_bounds {n : Nat} {i : Int} {k : Nat} (hn : n ≤ sizeLine) (h : ixN n i = some k) : -(2 ^ 63) ≤ i ∧ i < 2 ^ 63 ∧ seqIndex? i n = some k ∧ k < n := by
  obtain ⟨h1, h2, h3, h4⟩ := ixN_seq h
  rw [sizeLine_eq] at hn
  exact ⟨by omega, by omega, h1, h2⟩
theorem popAt_ok (X : Cx) (xi : XI) : ∃ r, MtR X "list.pop" r ∧ ∀ vs H Q E, spF X.K xi 2 (fun l => match l with | [.lst ts, t] => if ts.length ≤ sizeLine then popAtF [.lst ts, t] else .stuck | _ => .stuck) vs H Q E → rm r vs H Q := by
  refine ⟨_, mt_popAt, fun vs H Q E h => ?_⟩
  obtain ⟨ts, fp, hl, e, h⟩ := h
  rcases ts with _ | ⟨s, _ | ⟨t, _ | ⟨u, ts⟩⟩⟩ <;> simp at hl
  have hv : vs.length = 2 := by simpa using e.len
  rcases vs with _ | ⟨x, _ | ⟨y, _ | ⟨z, vs⟩⟩⟩ <;> simp at hv
  obtain ⟨r1, r2, n1, n2, d⟩ := env2 e
  cases s <;> first | exact (show False from h).elim | skip
  rename_i us
  simp only at h
  by_cases cl : us.length ≤ sizeLine
  case neg => rw [if_neg cl] at h; exact h.elim
  rw [if_pos cl] at h
  cases t <;> first | exact (show False from h).elim | skip
  rename_i i
  simp only [popAtF] at h
  cases hk : ixN us.length i with
  | none => rw [hk] at h; exact h.elim
  | some k =>
    rw [hk] at h
    simp only at h
    cases hg : us[k]? with
    | none => rw [hg] at h; exact h.elim
    | some t =>
      rw [hg] at h
      obtain ⟨rfl, _⟩ := r2
      obtain ⟨a, ws, g, rfl, ef, ha, rs⟩ := r1
      rw [ef] at n1
      have na := List.nodup_cons.mp n1
      obtain ⟨v, f1, g2, f2, hv1, rfl, rt, rd⟩ := reps_erase rs hg
      have n2 := List.nodup_append.mp na.2
      have n3 := List.nodup_append.mp n2.1
      obtain ⟨b1, b2, b3, b4⟩ := ixN_bounds cl hk
      refine ⟨a, ws, i, k, v, rfl, rfl, ha, b1, b2, by rw [rs.len]; exact b3, hv1, ?_⟩
      have kp : Keep (· = a) H (upd H a (.lst (ws.eraseIdx k))) := upd_keep
      have lo := lists_one ha
      have in12 : ∀ b ∈ f1 ++ f2, b ∈ f1 ++ g2 ++ f2 := fun b hb => by
        rcases List.mem_append.mp hb with z | z <;> simp [z]
      have R : Rep X.K (upd H a (.lst (ws.eraseIdx k))) (.lst (us.eraseIdx k)) (.ref a) (a :: (f1 ++ f2)) := ⟨a, _, _, rfl, rfl, upd_same, rd.keep kp lo fun b hb z => na.1 (z ▸ in12 b hb)⟩
      have sub : ∀ b, b ∈ a :: (f1 ++ g2 ++ f2) → In fp b := fun b hb => ⟨0, by rw [ef]; exact hb⟩
      have nd : (a :: (f1 ++ f2)).Nodup := List.nodup_cons.mpr ⟨fun z => na.1 (in12 a z), List.nodup_append.mpr ⟨n3.1, n2.2.1, fun b hb c hc => n2.2.2 b (List.mem_append_left _ hb) c hc⟩⟩
      refine h v _ (fp1 (a :: (f1 ++ f2))) g2 (mkEnv1 R nd rfl fun j t hj => ?_)
        ⟨fun b u hb hn => by rw [upd_ne (fun z => hn (by rw [z]; exact ⟨0, by rw [ef]; exact List.mem_cons_self⟩))]; exact hb, fun b hb => .inl ?_, n3.2.1, fun b hb hi => ?_⟩ (rt.keep kp lo fun b hb z => na.1 (z ▸ by simp [hb]))
      · cases j with
        | zero =>
          have : V.int i = V.int i := rfl
          have et : t = .int i := by simpa using hj.symm
          subst et
          exact ⟨.int i, rfl, rfl, rfl⟩
        | succ j => simp at hj
      · rcases hb with hb | hb
        · rcases List.mem_cons.mp (in1 hb) with rfl | z
          · exact sub b List.mem_cons_self
          · exact sub b (List.mem_cons_of_mem _ (in12 b z))
        · exact sub b (by simp [hb])
      · rcases List.mem_cons.mp (in1 hi) with rfl | z
        · exact na.1 (by simp [hb])
        · rcases List.mem_append.mp z with z | z
          · exact n3.2.2 b z b hb rfl
          · exact n2.2.2 b (List.mem_append_right _ hb) b z rfl
theorem extend_ok (X : Cx) (xi : XI) : ∃ r, MtR X "list.extend" r ∧ ∀ vs H Q E, spF X.K xi 2 extendF vs H Q E → rm r vs H Q := by
  refine ⟨_, mt_extend, fun vs H Q E h => ?_⟩
  obtain ⟨ts, fp, hl, e, h⟩ := h
  rcases ts with _ | ⟨s, _ | ⟨t, _ | ⟨u, ts⟩⟩⟩ <;> simp at hl
  have hv : vs.length = 2 := by simpa using e.len
  rcases vs with _ | ⟨x, _ | ⟨y, _ | ⟨z, vs⟩⟩⟩ <;> simp at hv
  obtain ⟨r1, r2, n1, n2, d⟩ := env2 e
  cases s <;> first | exact (show False from h).elim | skip
  rename_i us
  cases t <;> first | exact (show False from h).elim | skip
  rename_i ws'
  simp only [extendF] at h
  by_cases c : us.length + ws'.length ≤ sizeLine
  · rw [if_pos c] at h
    obtain ⟨a, ws, g, rfl, ef, ha, rs⟩ := r1
    obtain ⟨b, zs, g', rfl, ef', hb, rs'⟩ := r2
    rw [ef] at n1 d
    rw [ef'] at n2 d
    have na := List.nodup_cons.mp n1
    have nb := List.nodup_cons.mp n2
    have k1 : ∀ c ∈ g, ¬ c = a := fun b hb z => na.1 (z ▸ hb)
    have k2 : ∀ c ∈ g', ¬ c = a := fun c hc z => d a List.mem_cons_self (z ▸ List.mem_cons_of_mem _ hc)
    refine ⟨a, b, ws, zs, rfl, rfl, ha, hb, by rw [rs.len, rs'.len]; exact c, ?_⟩
    have kp : Keep (· = a) H (upd H a (.lst (ws ++ zs))) := upd_keep
    have lo := lists_one ha
    have R : Rep X.K (upd H a (.lst (ws ++ zs))) (.lst (us ++ ws')) (.ref a) (a :: (g ++ g')) := ⟨a, ws ++ zs, g ++ g', rfl, rfl, upd_same, Reps.append (rs.keep kp lo k1) (rs'.keep kp lo k2)⟩
    have sub : ∀ c, c ∈ a :: (g ++ g') → In fp c := fun c hc => by
      rcases List.mem_cons.mp hc with rfl | hc
      · exact ⟨0, by rw [ef]; exact List.mem_cons_self⟩
      · rcases List.mem_append.mp hc with hc | hc
        · exact ⟨0, by rw [ef]; exact List.mem_cons_of_mem _ hc⟩
        · exact ⟨1, by rw [ef']; exact List.mem_cons_of_mem _ hc⟩
    have nd : (a :: (g ++ g')).Nodup := List.nodup_cons.mpr ⟨fun z => by
      rcases List.mem_append.mp z with z | z
      · exact na.1 z
      · exact d a List.mem_cons_self (List.mem_cons_of_mem _ z), List.nodup_append.mpr ⟨na.2, nb.2, fun b hb c hc z => d b (List.mem_cons_of_mem _ hb) (z ▸ List.mem_cons_of_mem _ hc)⟩⟩
    refine h .non _ (fp1 (a :: (g ++ g'))) [] (mkEnv1 R nd rfl fun i t hi => ?_) ⟨fun b u hb hn => by rw [upd_ne (fun z => hn (by rw [z]; exact ⟨0, by rw [ef]; exact List.mem_cons_self⟩))]; exact hb, fun b hb => .inl ?_, .nil, fun _ hb => by cases hb⟩ ⟨rfl, rfl⟩
    · cases i with
      | zero => simp at hi
      | succ i => simp at hi
    · rcases hb with hb | hb
      · exact sub b (in1 hb)
      · cases hb
  · rw [if_neg c] at h; exact h.elim
def popAtF' : List T → FR := fun l => match l with
  | [.lst ts, t] => if ts.length ≤ sizeLine then popAtF [.lst ts, t] else .stuck
  | _ => .stuck
def eAppend (o a : Ex) : Ex := eME "list" "list.append" "append" isLst (fun _ => ty_lst) PySem.F.plainAttrs_list PySem.F.slot_list_append PySem.F.type_list_append o (xs [a]) 2 appendF append_ok
def ePop (o : Ex) : Ex := eME0 "list" "list.pop" "pop" isLst (fun _ => ty_lst) PySem.F.plainAttrs_list PySem.F.slot_list_pop PySem.F.type_list_pop o popF pop_ok
def ePopAt (o a : Ex) : Ex := eME "list" "list.pop" "pop" isLst (fun _ => ty_lst) PySem.F.plainAttrs_list PySem.F.slot_list_pop PySem.F.type_list_pop o (xs [a]) 2 popAtF' popAt_ok
def eExtend (o a : Ex) : Ex := eME "list" "list.extend" "extend" isLst (fun _ => ty_lst) PySem.F.plainAttrs_list PySem.F.slot_list_extend PySem.F.type_list_extend o (xs [a]) 2 extendF extend_ok

/-! ### methods of texts -/
def strsOf : List T → Option (List Str)
  | [] => some []
  | .str s :: ts => match strsOf ts with
    | some l => some (s :: l)
    | none => none
  | _ => none
theorem strs_reps {K : PySem.W.Frag} {H : Hp} : ∀ {ts : List T} {ys : List Str} {vs : List V} {f : List Addr}, strsOf ts = some ys → Reps K H ts vs f → vs = ys.map V.str
  | [], _, _, _, h, r => by cases h; exact r.1
  | t :: ts, ys, _, _, h, r => by
    cases t <;> first | (simp [strsOf] at h; done) | skip
    rename_i s
    simp only [strsOf] at h
    cases e : strsOf ts with
    | none => rw [e] at h; cases h
    | some l =>
      rw [e] at h
      cases h
      obtain ⟨v, ws, f1, f2, rfl, rfl, h1, h2⟩ := r
      rw [h1.1, strs_reps e h2]; rfl
def joinL (a : Str) (ts : List T) : Option T := match strsOf ts with
  | some ys => if (ys.map (·.length)).sum + ys.length * a.length ≤ 16777216 then some (.str (Txt.join a ys)) else none
  | none => none
def joinT : T → T → Option T
  | .str a, .lst ts => joinL a ts
  | .str a, .tup ts => joinL a ts
  | _, _ => none
def eJoin (o a : Ex) : Ex := eMP "str" "str.join" "join" isStr (fun _ => ty_str) PySem.F.plainAttrs_str PySem.F.slot_str_join PySem.F.type_str_join o (xs [a]) (f2 joinT) fun X hu => ⟨_, mt_join, ok2 fun H s t u x y fx fy hg rx ry Q p => by
  have go : ∀ {a : Str} {ts : List T} {q : Addr} {vs : List V} {f : List Addr}, joinL a ts = some u → Reps X.K H ts vs f → (SqL X.K H q vs ∨ SqT X.K H q vs) → ∃ a' p, ∃ ys : List Str, V.str a = .str a' ∧ [V.ref q] = [.ref p] ∧ (SqL X.K H p (ys.map V.str) ∨ SqT X.K H p (ys.map V.str)) ∧
      (ys.map (·.length)).sum + ys.length * a'.length ≤ 16777216 ∧ Q (.str (Txt.join a' ys)) H := fun {a ts q vs f} hj r sq => by
    unfold joinL at hj
    split at hj
    · rename_i ys e
      split at hj
      · rename_i c
        cases hj
        have ev := strs_reps e r
        subst ev
        exact ⟨a, q, ys, rfl, rfl, sq, c, p.v ⟨rfl, rfl⟩⟩
      · cases hj
    · cases hj
  unfold joinT at hg
  split at hg
  · obtain ⟨rfl, _⟩ := rx
    obtain ⟨q, vs, g, rfl, _, sq, r⟩ := ry
    exact go hg r (.inl (SqL.of sq))
  · obtain ⟨rfl, _⟩ := rx
    obtain ⟨q, vs, rfl, sq, r⟩ := ry
    exact go hg r (.inr (SqT.of sq))
  · cases hg⟩
def findT : T → T → T → Option T
  | .str a, .str b, .int i => some (.int (Txt.find3 a b i))
  | _, _, _ => none
def eFind3 (o a b : Ex) : Ex := eMP "str" "str.find" "find" isStr (fun _ => ty_str) PySem.F.plainAttrs_str PySem.F.slot_str_find PySem.F.type_str_find o (xs [a, b]) (f3 findT) fun X hu => ⟨_, mt_find3, ok3 fun H s t u z x y w fx fy fw hg rx ry rw' Q p => by
  unfold findT at hg
  split at hg <;> cases hg
  obtain ⟨rfl, _⟩ := rx
  obtain ⟨rfl, _⟩ := ry
  obtain ⟨rfl, _⟩ := rw'
  exact ⟨_, _, _, rfl, rfl, p.v ⟨rfl, rfl⟩⟩⟩
end Pv
set_option Elab.async false
set_option linter.all false
set_option maxRecDepth 100000
set_option maxHeartbeats 2000000
/-! Pv part I: statements. -/
namespace Pv
open PySem L2

/-- for statements: what loops and stores ask besides -/
structure Gs (X : Cx) (xi : XI) (N : List Str) (sc : Scope) (lvl : Nat) (cm : Bool) (W : WX) : Prop extends Gd X xi N sc lvl cm W where
  fnok : ∀ x, L2.Loc sc x → X.fn x = true ∨ sc.names.lookup x = some .local
  hpo : PassesOwn (model X.prog X.w) X.A X.env X.xe
  hst : X.stack = X.env :: X.outer
  hfr : X.env.frame = some X.env.locals

def Agree (asg : List Nat) (σ σ' : L2.St) : Prop := ∀ i, i ∉ asg → σ'[i]? = σ[i]?
theorem Agree.refl {asg : List Nat} {σ : L2.St} : Agree asg σ σ := fun _ _ => rfl
theorem Agree.trans {asg : List Nat} {σ σ1 σ2 : L2.St} (a : Agree asg σ σ1) (b : Agree asg σ1 σ2) : Agree asg σ σ2 := fun i h => (b i h).trans (a i h)
theorem Agree.more {asg asg' : List Nat} {σ σ' : L2.St} (a : Agree asg σ σ') (h : ∀ i ∈ asg, i ∈ asg') : Agree asg' σ σ' := fun i n => a i fun z => n (h i z)
def postS (K : PySem.W.Frag) (xi : XI) (W : WX) (asg : List Nat) (σ : L2.St) (fp : Fp) (H : Hp) (D : Ends) : RS → Prop
  | .nx ρ' => ∀ σ' H' fp', Env K ρ' fp' σ' H' → Step fp H fp' [] H' → Agree asg σ σ' → D.nx σ' H'
  | .ret t ρ' => ∀ v σ' H' fp' fo, Env K ρ' fp' σ' H' → Step fp H fp' fo H' → Agree asg σ σ' → Rep K H' t v fo → D.rt v H'
  | .bk ρ' => ∀ σ' H' fp', Env K ρ' fp' σ' H' → Step fp H fp' [] H' → Agree asg σ σ' → D.bk σ' H'
  | .ct ρ' => ∀ σ' H' fp', Env K ρ' fp' σ' H' → Step fp H fp' [] H' → Agree asg σ σ' → D.ct σ' H'
  | .ex c t ρ' => ∀ d σ' H' fp', Env K ρ' fp' σ' H' → Step fp H fp' [] H' → Agree asg σ σ' → XRep K xi H' d c t → W (.ref (xi.xc c)) (some d) σ' H'
  | .stuck => False
def tS (K : PySem.W.Frag) (xi : XI) (W : WX) (asg : List Nat) (sem : Rho → RS) : TS := fun D σ H => ∃ ρ fp, Env K ρ fp σ H ∧ postS K xi W asg σ fp H D (sem ρ)
structure Sx where
  sem : Rho → RS
  asg : List Nat
  m : List Str → Scope → Bool → Stmt → Bool
  pre : Gm → Nat → Prop
  snd : ∀ {X : Cx} {xi : XI} {N : List Str} {sc : Scope} {lvl : Nat} {cm : Bool} {W : WX} {x : Stmt}, Gs X xi N sc lvl cm W → pre (gm X xi) lvl → m N sc cm x = true → PS X x (tS X.K xi W asg sem)
structure Bl where
  sem : Rho → RS
  asg : List Nat
  m : List Str → Scope → Bool → List Stmt → Bool
  pre : Gm → Nat → Prop
  snd : ∀ {X : Cx} {xi : XI} {N : List Str} {sc : Scope} {lvl : Nat} {cm : Bool} {W : WX} {x : List Stmt}, Gs X xi N sc lvl cm W → pre (gm X xi) lvl → m N sc cm x = true → PSs X x (tS X.K xi W asg sem)

section
variable {K : PySem.W.Frag} {xi : XI} {W : WX} {asg asg' : List Nat} {σ σ1 : L2.St} {fp fp1 : Fp} {H H1 : Hp} {D : Ends} {r : RS}
/-- from a state on the way -/
theorem postS.from (s1 : Step fp H fp1 [] H1) (a1 : Agree asg σ σ1) (h : postS K xi W asg σ fp H D r) : postS K xi W asg σ1 fp1 H1 D r := by
  cases r with
  | stuck => exact h
  | nx ρ' => exact fun σ' H' fp' e s a => h σ' H' fp' e (s1.trans0 s) (a1.trans a)
  | ret t ρ' => exact fun v σ' H' fp' fo e s a => h v σ' H' fp' fo e (s1.trans0 s) (a1.trans a)
  | bk ρ' => exact fun σ' H' fp' e s a => h σ' H' fp' e (s1.trans0 s) (a1.trans a)
  | ct ρ' => exact fun σ' H' fp' e s a => h σ' H' fp' e (s1.trans0 s) (a1.trans a)
  | ex c t ρ' => exact fun d σ' H' fp' e s a => h d σ' H' fp' e (s1.trans0 s) (a1.trans a)
theorem postS.less (l : ∀ i ∈ asg, i ∈ asg') (h : postS K xi W asg' σ fp H D r) : postS K xi W asg σ fp H D r := by
  cases r with
  | stuck => exact h
  | nx ρ' => exact fun σ' H' fp' e s a => h σ' H' fp' e s (a.more l)
  | ret t ρ' => exact fun v σ' H' fp' fo e s a => h v σ' H' fp' fo e s (a.more l)
  | bk ρ' => exact fun σ' H' fp' e s a => h σ' H' fp' e s (a.more l)
  | ct ρ' => exact fun σ' H' fp' e s a => h σ' H' fp' e s (a.more l)
  | ex c t ρ' => exact fun d σ' H' fp' e s a => h d σ' H' fp' e s (a.more l)
end

/-! ### blocks -/
def bNil : Bl := ⟨.nx, [], fun _ _ _ s => s.isEmpty, fun _ _ => True, fun {X xi N sc lvl cm W x} g p h => by
  cases x with
  | cons => cases h
  | nil =>
    refine PSs.to pss_nil fun D σ H hq => ?_
    obtain ⟨ρ, fp, e, hq⟩ := hq
    exact hq σ H fp e Step.refl Agree.refl⟩
def seqS (a b : Rho → RS) : Rho → RS := fun ρ => match a ρ with
  | .nx ρ1 => b ρ1
  | x => x
theorem seq_to {K : PySem.W.Frag} {xi : XI} {W : WX} {a b : Rho → RS} {as bs : List Nat} {D : Ends} {σ : L2.St} {H : Hp} (h : tS K xi W (as ++ bs) (seqS a b) D σ H) : tSeq (tS K xi W as a) (tS K xi W bs b) D σ H := by
  obtain ⟨ρ, fp, e, h⟩ := h
  refine ⟨ρ, fp, e, ?_⟩
  simp only [seqS] at h
  cases ha : a ρ with
  | nx ρ1 =>
    rw [ha] at h
    exact fun σ1 H1 fp1 e1 s1 a1 => ⟨ρ1, fp1, e1, (h.from s1 (a1.more fun i z => List.mem_append_left _ z)).less fun i z => List.mem_append_right _ z⟩
  | stuck => rw [ha] at h; exact h.elim
  | ret t ρ1 => rw [ha] at h; exact postS.less (asg' := as ++ bs) (fun i z => List.mem_append_left _ z) h
  | bk ρ1 => rw [ha] at h; exact postS.less (asg' := as ++ bs) (fun i z => List.mem_append_left _ z) h
  | ct ρ1 => rw [ha] at h; exact postS.less (asg' := as ++ bs) (fun i z => List.mem_append_left _ z) h
  | ex c t ρ1 => rw [ha] at h; exact postS.less (asg' := as ++ bs) (fun i z => List.mem_append_left _ z) h
def bCons (a : Sx) (b : Bl) : Bl where
  sem := seqS a.sem b.sem
  asg := a.asg ++ b.asg
  m := fun N sc cm s => match s with
    | x :: r => a.m N sc cm x && b.m N sc cm r
    | [] => false
  pre := fun Γ k => a.pre Γ k ∧ b.pre Γ k
  snd := fun {X xi N sc lvl cm W x} g p h => by
    cases x with
    | nil => cases h
    | cons x r =>
      simp only [Bool.and_eq_true] at h
      exact PSs.to (pss_cons (a.snd g p.1 h.1) (b.snd g p.2 h.2)) fun D σ H hq => seq_to hq
def blk (l : List Sx) : Bl := l.foldr bCons bNil

/-! ### small statements -/
def noComp : Expr → Bool
  | .ListComp _ _ _ _ => false
  | .SetComp _ _ _ _ => false
  | .DictComp _ _ _ _ _ => false
  | _ => true
theorem swaps_of {x : Expr} {t : Option Expr} {l : Nat} {env : PySem.Env} (h : noComp x = true) : swapsWith x t l env = pure false := by
  cases x <;> first | rfl | cases h
/-- an expression, its value dropped -/
def exprS (s : Rho → R) : Rho → RS := fun ρ => match s ρ with
  | .ok _ ρ' _ => .nx ρ'
  | .ex c t ρ' => .ex c t ρ'
  | .stuck => .stuck
def sExpr (a : Ex) : Sx where
  sem := exprS a.sem
  asg := []
  m := fun N sc cm s => match s with
    | .Expr x _ => noComp x && a.m N sc cm x
    | _ => false
  pre := a.pre
  snd := fun {X xi N sc lvl cm W x} g p h => by
    cases x <;> first | (cases h; done) | skip
    simp only [Bool.and_eq_true] at h
    refine PS.to (ps_expr (a.snd g.toGd p h.2) (swaps_of h.1)) fun D σ H hq => ?_
    obtain ⟨ρ, fp, e, hq⟩ := hq
    refine ⟨ρ, fp, e, ?_⟩
    simp only [exprS] at hq
    cases hs : a.sem ρ with
    | stuck => rw [hs] at hq; exact hq
    | ex c t ρ' => rw [hs] at hq; exact fun d H' fp' e' s' x => hq d σ H' fp' e' s' Agree.refl x
    | ok o ρ' τ => rw [hs] at hq; exact fun v H' fp' fo e' s' q' r' => hq σ H' fp' e' s'.drop Agree.refl
def retS (s : Rho → R) : Rho → RS := fun ρ => match s ρ with
  | .ok (.v t) ρ' _ => .ret t ρ'
  | .ok (.p i path) ρ' _ => match getO ρ' (.p i path) with
    | some t => .ret t (ρ'.set i none)
    | none => .stuck
  | .ex c t ρ' => .ex c t ρ'
  | .stuck => .stuck
/-- a slot is emptied -/
theorem Env.empty {K : PySem.W.Frag} {ρ : Rho} {fp : Fp} {σ : L2.St} {H : Hp} (e : Env K ρ fp σ H) (i : Nat) : Env K (ρ.set i none) (fun j => if j = i then [] else fp j) σ H := by
  refine ⟨by rw [List.length_set]; exact e.len, fun j s hs => ?_, fun j hj => ?_, fun j => ?_, fun j k a ha hb => ?_⟩
  · by_cases c : j = i
    · subst c
      by_cases hl : j < ρ.length
      · rw [List.getElem?_set_self hl] at hs; cases hs
      · rw [List.getElem?_eq_none (by simpa using hl)] at hs; cases hs
    · rw [List.getElem?_set_ne (Ne.symm c)] at hs
      simp only [if_neg c]
      exact e.rep j s hs
  · by_cases c : j = i
    · simp only [if_pos c]
    · simp only [if_neg c]
      exact e.emp j fun s hs => hj s (by rw [List.getElem?_set_ne (Ne.symm c)]; exact hs)
  · by_cases c : j = i
    · simp only [if_pos c]; exact .nil
    · simp only [if_neg c]; exact e.nd j
  · by_cases c : j = i
    · simp only [if_pos c] at ha; cases ha
    · by_cases d : k = i
      · simp only [if_pos d] at hb; cases hb
      · simp only [if_neg c] at ha
        simp only [if_neg d] at hb
        exact e.dj j k a ha hb
theorem in_empty {fp : Fp} {i : Nat} {a : Addr} (h : In (fun j => if j = i then [] else fp j) a) : ∃ j, j ≠ i ∧ a ∈ fp j := by
  obtain ⟨j, h⟩ := h
  by_cases c : j = i
  · simp only [if_pos c] at h; cases h
  · simp only [if_neg c] at h; exact ⟨j, c, h⟩
def sRet (a : Ex) : Sx where
  sem := retS a.sem
  asg := []
  m := fun N sc cm s => match s with
    | .Return (some x) _ => a.m N sc cm x
    | _ => false
  pre := a.pre
  snd := fun {X xi N sc lvl cm W x} g p h => by
    cases x <;> first | (cases h; done) | skip
    rename_i v _
    cases v with
    | none => cases h
    | some x =>
      refine PS.to (ps_ret (a.snd g.toGd p h)) fun D σ H hq => ?_
      obtain ⟨ρ, fp, e, hq⟩ := hq
      refine ⟨ρ, fp, e, ?_⟩
      simp only [retS] at hq
      cases hs : a.sem ρ with
      | stuck => rw [hs] at hq; exact hq
      | ex c t ρ' => rw [hs] at hq; exact fun d H' fp' e' s' x => hq d σ H' fp' e' s' Agree.refl x
      | ok o ρ' τ =>
        rw [hs] at hq
        cases o with
        | v t => exact fun v H' fp' fo e' s' q' r' => hq v σ H' fp' fo e' s' Agree.refl r'
        | p i path =>
          simp only at hq
          intro v H' fp' fo e' s' q' r'
          obtain ⟨_, u, t0, s, g', h1, h2, h3⟩ := r'
          obtain ⟨rt, rs, ea, a1, a2, ef, _⟩ := h3.use
          simp only [getO, h2, ea] at hq
          have ndi := e'.nd i
          rw [ef] at ndi
          have nd' := (List.nodup_append.mp (List.nodup_append.mp ndi).1).2.1
          have mem : ∀ a ∈ g', a ∈ fp' i := fun a h => by rw [ef]; simp [h]
          refine hq v σ H' _ g' (e'.empty i) ⟨s'.keep, fun a z => ?_, nd', fun a ha z => ?_⟩ Agree.refl rs
          · rcases z with z | z
            · obtain ⟨j, _, z⟩ := in_empty z
              exact s'.sub a (.inl ⟨j, z⟩)
            · exact s'.sub a (.inl ⟨i, mem a z⟩)
          · obtain ⟨j, c, z⟩ := in_empty z
            exact c (e'.dj j i a z (mem a ha))
def sRetN : Sx where
  sem := fun ρ => .ret .non ρ
  asg := []
  m := fun N sc cm s => match s with
    | .Return none _ => true
    | _ => false
  pre := fun _ _ => True
  snd := fun {X xi N sc lvl cm W x} g p h => by
    cases x <;> first | (cases h; done) | skip
    rename_i v _
    cases v with
    | some x => cases h
    | none =>
      refine PS.to ps_retN fun D σ H hq => ?_
      obtain ⟨ρ, fp, e, hq⟩ := hq
      exact hq .non σ H fp [] e Step.refl Agree.refl ⟨rfl, rfl⟩
def sPass : Sx where
  sem := fun ρ => .nx ρ
  asg := []
  m := fun N sc cm s => match s with
    | .Pass _ => true
    | _ => false
  pre := fun _ _ => True
  snd := fun {X xi N sc lvl cm W x} g p h => by
    cases x <;> first | (cases h; done) | skip
    refine PS.to ps_pass fun D σ H hq => ?_
    obtain ⟨ρ, fp, e, hq⟩ := hq
    exact hq σ H fp e Step.refl Agree.refl
def sBreak : Sx where
  sem := fun ρ => .bk ρ
  asg := []
  m := fun N sc cm s => match s with
    | .Break _ => true
    | _ => false
  pre := fun _ _ => True
  snd := fun {X xi N sc lvl cm W x} g p h => by
    cases x <;> first | (cases h; done) | skip
    refine PS.to ps_break fun D σ H hq => ?_
    obtain ⟨ρ, fp, e, hq⟩ := hq
    exact hq σ H fp e Step.refl Agree.refl
def sCont : Sx where
  sem := fun ρ => .ct ρ
  asg := []
  m := fun N sc cm s => match s with
    | .Continue _ => true
    | _ => false
  pre := fun _ _ => True
  snd := fun {X xi N sc lvl cm W x} g p h => by
    cases x <;> first | (cases h; done) | skip
    refine PS.to ps_continue fun D σ H hq => ?_
    obtain ⟨ρ, fp, e, hq⟩ := hq
    exact hq σ H fp e Step.refl Agree.refl
def ifS (c : Rho → RB) (a b : Rho → RS) : Rho → RS := fun ρ => match c ρ with
  | .ok k ρ1 _ => if k = true then a ρ1 else b ρ1
  | .ex x t ρ1 => .ex x t ρ1
  | .stuck => .stuck
def sIf (c : Bx) (a b : Bl) : Sx where
  sem := ifS c.sem a.sem b.sem
  asg := a.asg ++ b.asg
  m := fun N sc cm s => match s with
    | .If t x y _ => c.m N sc cm t && (a.m N sc cm x && b.m N sc cm y)
    | _ => false
  pre := fun Γ k => c.pre Γ k ∧ a.pre Γ k ∧ b.pre Γ k
  snd := fun {X xi N sc lvl cm W x} g p h => by
    cases x <;> first | (cases h; done) | skip
    simp only [Bool.and_eq_true] at h
    refine PS.to (ps_if (c.snd g.toGd p.1 h.1) (a.snd g p.2.1 h.2.1) (b.snd g p.2.2 h.2.2)) fun D σ H hq => ?_
    obtain ⟨ρ, fp, e, hq⟩ := hq
    refine ⟨ρ, fp, e, ?_⟩
    simp only [ifS] at hq
    cases hc : c.sem ρ with
    | stuck => rw [hc] at hq; exact hq
    | ex c t ρ' => rw [hc] at hq; exact fun d H' fp' e' s' x => hq d σ H' fp' e' s' Agree.refl x
    | ok k ρ1 τ =>
      rw [hc] at hq
      simp only at hq
      intro H1 fp1 e1 s1 q1
      cases k with
      | true =>
        rw [if_pos rfl] at hq ⊢
        exact ⟨ρ1, fp1, e1, (hq.from s1 Agree.refl).less fun i z => List.mem_append_left _ z⟩
      | false =>
        rw [if_neg Bool.false_ne_true] at hq ⊢
        exact ⟨ρ1, fp1, e1, (hq.from s1 Agree.refl).less fun i z => List.mem_append_right _ z⟩

/-! ### stores to names -/
theorem Env.set {K : PySem.W.Frag} {ρ : Rho} {fp : Fp} {σ : L2.St} {H : Hp} {t : T} {v : V} {fo : List Addr} (e : Env K ρ fp σ H) (i : Nat) (r : Rep K H t v fo) (nd : fo.Nodup) (d : ∀ a ∈ fo, ¬ In fp a) (hi : i < ρ.length) :
    Env K (ρ.set i (some t)) (fun j => if j = i then fo else fp j) (σ.set i (some v)) H := by
  refine ⟨by simp [e.len], fun j s hs => ?_, fun j hj => ?_, fun j => ?_, fun j k a ha hb => ?_⟩
  · by_cases c : j = i
    · subst c
      rw [List.getElem?_set_self hi] at hs
      cases hs
      exact ⟨v, List.getElem?_set_self (by rw [e.len]; exact hi), by simp only [if_pos]; exact r⟩
    · rw [List.getElem?_set_ne (Ne.symm c)] at hs
      obtain ⟨w, hw, q⟩ := e.rep j s hs
      exact ⟨w, by rw [List.getElem?_set_ne (Ne.symm c)]; exact hw, by simp only [if_neg c]; exact q⟩
  · by_cases c : j = i
    · subst c; exact absurd (List.getElem?_set_self hi) (hj t)
    · simp only [if_neg c]
      exact e.emp j fun s hs => hj s (by rw [List.getElem?_set_ne (Ne.symm c)]; exact hs)
  · by_cases c : j = i
    · simp only [if_pos c]; exact nd
    · simp only [if_neg c]; exact e.nd j
  · by_cases c : j = i
    · by_cases c' : k = i
      · rw [c, c']
      · simp only [if_pos c] at ha
        simp only [if_neg c'] at hb
        exact (d a ha ⟨k, hb⟩).elim
    · by_cases c' : k = i
      · simp only [if_neg c] at ha
        simp only [if_pos c'] at hb
        exact (d a hb ⟨j, ha⟩).elim
      · simp only [if_neg c] at ha
        simp only [if_neg c'] at hb
        exact e.dj j k a ha hb
theorem in_set {fp : Fp} {i : Nat} {fo : List Addr} {a : Addr} (h : In (fun j => if j = i then fo else fp j) a) : a ∈ fo ∨ In fp a := by
  obtain ⟨j, h⟩ := h
  by_cases c : j = i
  · simp only [if_pos c] at h; exact .inl h
  · simp only [if_neg c] at h; exact .inr ⟨j, h⟩
/-- what a target takes -/
structure Tgt where
  sem : T → Rho → Option Rho
  asg : List Nat
  m : List Str → Scope → Bool → Expr → Bool
  snd : ∀ {X : Cx} {N : List Str} {sc : Scope} {st : Bool} {x : Expr}, X.N = N → N.Nodup → X.env.scope = sc → X.calm = true → (st = false → ∀ x, L2.Loc sc x → X.fn x = true ∨ sc.names.lookup x = some .local) → m N sc st x = true →
    ∃ g, PG X x g ∧ ∀ (t : T) (v : V) (fo : List Addr) (σ : L2.St) (H : Hp) (ρ ρ' : Rho) (fp : Fp) (Q : L2.St → Hp → Prop), Env X.K ρ fp σ H → Rep X.K H t v fo → fo.Nodup → (∀ a ∈ fo, ¬ In fp a) → sem t ρ = some ρ' →
      (∀ σ' fp', Env X.K ρ' fp' σ' H → ((∀ a, In fp' a → In fp a ∨ a ∈ fo) ∧ ∀ i, i ∉ asg → fp' i = fp i) → Agree asg σ σ' → Q σ' H) → g v σ H Q
  loc : ∀ {t : T} {ρ ρ' : Rho}, sem t ρ = some ρ' → ρ'.length = ρ.length ∧ ∀ i, i ∉ asg → ρ'[i]? = ρ[i]?
def stB (N : List Str) (sc : Scope) (st : Bool) (i : Nat) (x : Str) : Bool := decide (N[i]? = some x) && (if st = true then decide (sc.names.lookup x = some .local) else locB sc x)
structure StOk (X : Cx) (i : Nat) (x : Str) : Prop where
  at_ : X.N[i]? = some x
  loc : L2.Loc X.env.scope x
  ok : X.fn x = true ∨ X.env.scope.names.lookup x = some .local
theorem st_of {X : Cx} {N : List Str} {sc : Scope} {st : Bool} {i : Nat} {x : Str} (hN : X.N = N) (hs : X.env.scope = sc) (hf : st = false → ∀ x, L2.Loc sc x → X.fn x = true ∨ sc.names.lookup x = some .local) (h : stB N sc st i x = true) : StOk X i x := by
  subst hN hs
  unfold stB at h
  simp only [Bool.and_eq_true, decide_eq_true_eq] at h
  cases st with
  | true =>
    have z : X.env.scope.names.lookup x = some .local := by simpa using h.2
    exact ⟨h.1, .inl z, .inr z⟩
  | false =>
    have z : L2.Loc X.env.scope x := loc_of (by simpa using h.2)
    exact ⟨h.1, z, hf rfl x z⟩
def gN (i : Nat) : Tgt where
  sem := fun t ρ => if i < ρ.length then some (ρ.set i (some t)) else none
  asg := [i]
  m := fun N sc st e => match e with
    | .Name x _ => stB N sc st i x
    | _ => false
  snd := fun {X N sc st x} hN nd hs hc hf h => by
    cases x <;> first | (cases h; done) | skip
    have S := st_of hN hs hf h
    refine ⟨_, pg_name (by rw [hN]; exact nd) S.at_ S.loc S.ok, fun t v fo σ H ρ ρ' fp Q e r nd' d hse k => ?_⟩
    split at hse
    · rename_i hi
      cases hse
      exact k _ _ (e.set i r nd' d hi) ⟨fun a z => (in_set z).elim .inr .inl, fun j hj => if_neg (by simpa using hj)⟩ fun j hj => List.getElem?_set_ne (by simpa using Ne.symm (by simpa using hj))
    · cases hse
  loc := fun {t ρ ρ'} h => by
    split at h
    · cases h
      exact ⟨List.length_set, fun j hj => List.getElem?_set_ne (by simpa using Ne.symm (by simpa using hj))⟩
    · cases h
/-- a, b, .. = a tuple of plain things -/
def setAll : List Nat → List T → Rho → Option Rho
  | [], [], ρ => some ρ
  | i :: is, t :: ts, ρ => if i < ρ.length then setAll is ts (ρ.set i (some t)) else none
  | _, _, _ => none
def tupB (N : List Str) (sc : Scope) (st : Bool) : List Nat → List Expr → Bool
  | [], [] => true
  | i :: is, .Name x _ :: es => stB N sc st i x && tupB N sc st is es
  | _, _ => false
theorem pgs_names {X : Cx} {N : List Str} {sc : Scope} {st : Bool} (hN : X.N = N) (nd : N.Nodup) (hs : X.env.scope = sc) (hf : st = false → ∀ x, L2.Loc sc x → X.fn x = true ∨ sc.names.lookup x = some .local) : ∀ {is : List Nat} {es : List Expr}, tupB N sc st is es = true →
    (assignEach es X.env).length = is.length ∧ (assignEach es X.env).findIdx? (·.1) = none ∧ ∃ g, PGs X es g ∧ ∀ (ts : List T) (vs : List V) (σ : L2.St) (H : Hp) (ρ ρ' : Rho) (fp : Fp) (Q : L2.St → Hp → Prop), Env X.K ρ fp σ H → Reps X.K H ts vs [] → setAll is ts ρ = some ρ' →
      (∀ σ' fp', Env X.K ρ' fp' σ' H → ((∀ a, In fp' a → In fp a) ∧ ∀ i, i ∉ is → fp' i = fp i) → Agree is σ σ' → Q σ' H) → g vs σ H Q
  | [], [], _ => ⟨rfl, rfl, _, pgs_nil, fun ts vs σ H ρ ρ' fp Q e r hse k => by
      cases ts with
      | cons => simp [setAll] at hse
      | nil =>
        cases hse
        exact ⟨r.1, k σ fp e ⟨fun _ z => z, fun _ _ => rfl⟩ Agree.refl⟩⟩
  | [], _ :: _, h => by simp [tupB] at h
  | i :: is, [], h => by simp [tupB] at h
  | i :: is, x :: es, h => by
    cases x <;> first | (simp [tupB] at h; done) | skip
    rename_i x pos
    simp only [tupB, Bool.and_eq_true] at h
    obtain ⟨h1, h2, g, hg, gk⟩ := pgs_names hN nd hs hf (is := is) (es := es) h.2
    have S := st_of hN hs hf h.1
    refine ⟨by simp [assignEach, h1], ?_, _, pgs_cons (pg_name (by rw [hN]; exact nd) S.at_ S.loc S.ok) hg, fun ts vs σ H ρ ρ' fp Q e r hse k => ?_⟩
    · show List.findIdx? (·.1) ((false, assign (.Name x pos) X.env) :: assignEach es X.env) = none
      rw [List.findIdx?_cons]
      simp [h2]
    · cases ts with
      | nil => simp [setAll] at hse
      | cons t ts =>
        obtain ⟨v, ws, f1, f2, rfl, ef, r1, r2⟩ := r
        obtain ⟨rfl, rfl⟩ : f1 = [] ∧ f2 = [] := by simpa using ef.symm
        simp only [setAll] at hse
        split at hse
        · rename_i hi
          refine ⟨v, ws, rfl, gk ts ws _ H _ ρ' _ Q (e.set i r1 .nil (fun _ z => by cases z) hi) r2 hse fun σ' fp' e' hin ag => k σ' fp' e' ⟨fun a z => ?_, fun j hj => ?_⟩ fun j hj => ?_⟩
          · rcases in_set (hin.1 a z) with z | z
            · cases z
            · exact z
          · have hj' : j ≠ i ∧ j ∉ is := by simpa using hj
            rw [hin.2 j hj'.2]
            exact if_neg hj'.1
          · have hj' : j ≠ i ∧ j ∉ is := by simpa using hj
            rw [ag j hj'.2, List.getElem?_set_ne (Ne.symm hj'.1)]
        · cases hse
theorem setAll_len : ∀ {is : List Nat} {ts : List T} {ρ ρ' : Rho}, setAll is ts ρ = some ρ' → ts.length = is.length
  | [], [], _, _, _ => rfl
  | [], _ :: _, _, _, h => by simp [setAll] at h
  | _ :: _, [], _, _, h => by simp [setAll] at h
  | i :: is, t :: ts, ρ, ρ', h => by
    simp only [setAll] at h
    split at h
    · simp [setAll_len (is := is) (ts := ts) h]
    · cases h
theorem setAll_loc : ∀ {is : List Nat} {ts : List T} {ρ ρ' : Rho}, setAll is ts ρ = some ρ' → ρ'.length = ρ.length ∧ ∀ i, i ∉ is → ρ'[i]? = ρ[i]?
  | [], [], _, _, h => by cases h; exact ⟨rfl, fun _ _ => rfl⟩
  | [], _ :: _, _, _, h => by simp [setAll] at h
  | _ :: _, [], _, _, h => by simp [setAll] at h
  | i :: is, t :: ts, ρ, ρ', h => by
    simp only [setAll] at h
    split at h
    · obtain ⟨h1, h2⟩ := setAll_loc (is := is) (ts := ts) h
      refine ⟨by rw [h1, List.length_set], fun j hj => ?_⟩
      have hj' : j ≠ i ∧ j ∉ is := by simpa using hj
      rw [h2 j hj'.2, List.getElem?_set_ne (Ne.symm hj'.1)]
    · cases h
def gT (is : List Nat) : Tgt where
  sem := fun t ρ => match t with
    | .tup ts => if T.imms ts = true then setAll is ts ρ else none
    | _ => none
  asg := is
  m := fun N sc st e => match e with
    | .Tuple es _ _ => tupB N sc st is es
    | _ => false
  snd := fun {X N sc st x} hN nd hs hc hf h => by
    cases x <;> first | (cases h; done) | skip
    obtain ⟨h1, h2, g, hg, gk⟩ := pgs_names hN nd hs hf h
    refine ⟨_, pg_tup hc hg h1 h2, fun t v fo σ H ρ ρ' fp Q e r nd' d hse k => ?_⟩
    cases t <;> first | (cases hse; done) | skip
    rename_i ts
    replace hse : (if T.imms ts = true then setAll is ts ρ else none) = some ρ' := hse
    split at hse
    · rename_i c
      obtain ⟨a, vs, rfl, sq, r⟩ := r
      have z := r.imm_nil c
      subst z
      have hl := setAll_len hse
      exact ⟨a, vs, rfl, SqT.of sq, by rw [r.len, hl], gk ts vs σ H ρ ρ' fp Q e r hse fun σ' fp' e' hin ag => k σ' fp' e' ⟨fun a z => .inl (hin.1 a z), hin.2⟩ ag⟩
    · cases hse
  loc := fun {t ρ ρ'} h => by
    cases t <;> first | (cases h; done) | skip
    rename_i ts
    replace h : (if T.imms ts = true then setAll is ts ρ else none) = some ρ' := h
    split at h
    · exact setAll_loc h
    · cases h
end Pv
set_option Elab.async false
set_option linter.all false
set_option maxRecDepth 100000
set_option maxHeartbeats 2000000
/-! Pv part J: assignments, loops, comprehensions. -/
namespace Pv
open PySem L2

/-! ### target = value -/
def asgS (set : T → Rho → Option Rho) (a : Rho → R) : Rho → RS := fun ρ => match a ρ with
  | .ok (.v t) ρ' _ => match set t ρ' with
    | some ρ2 => .nx ρ2
    | none => .stuck
  | .ok _ _ _ => .stuck
  | .ex c t ρ' => .ex c t ρ'
  | .stuck => .stuck
def noSwap : Expr → Expr → Bool
  | .Tuple _ _ _, .Tuple _ _ _ => false
  | .List _ _, .Tuple _ _ _ => false
  | _, _ => true
theorem swapped_of {t x : Expr} {env : PySem.Env} (h : noSwap t x = true) : swappedStores [t] x env = pure none := by
  cases t <;> cases x <;> first | rfl | cases h
theorem assignEach_of {t : Expr} {env : PySem.Env} (h : notStar t = true) : (assignEach [t] env).map (·.2) = [assign t env] := by
  cases t <;> first | rfl | cases h
theorem asg_fin {K : PySem.W.Frag} {xi : XI} {W : WX} {asg : List Nat} {σ σ' : L2.St} {fp fp' fp2 : Fp} {H H' : Hp} {fo : List Addr} {D : Ends} {ρ2 : Rho} (hq : postS K xi W asg σ fp H D (.nx ρ2)) (s' : Step fp H fp' fo H') (e : Env K ρ2 fp2 σ' H') (hin : ∀ a, In fp2 a → In fp' a ∨ a ∈ fo)
    (ag : Agree asg σ σ') : D.nx σ' H' :=
  hq σ' H' fp2 e ⟨s'.keep, fun a z => z.elim (fun z => s'.sub a (hin a z)) (fun z => by cases z), List.nodup_nil, fun _ z => by cases z⟩ ag
def sSet (tg : Tgt) (a : Ex) : Sx where
  sem := asgS tg.sem a.sem
  asg := tg.asg
  m := fun N sc cm s => match s with
    | .Assign [t] x _ => cm && (noComp x && (noSwap t x && (notStar t && (tg.m N sc false t && a.m N sc cm x))))
    | _ => false
  pre := a.pre
  snd := fun {X xi N sc lvl cm W x} g p h => by
    split at h
    · simp only [Bool.and_eq_true] at h
      obtain ⟨hc, h1, h2, h3, h4, h5⟩ := h
      obtain ⟨gg, hg, gk⟩ := tg.snd g.hN g.nd g.hsc (g.hcm hc) (fun _ => g.fnok) h4
      refine PS.to (ps_asg (a.snd g.toGd p h5) hg (swaps_of h1) (swapped_of h2) (assignEach_of h3)) fun D σ H hq => ?_
      obtain ⟨ρ, fp, e, hq⟩ := hq
      refine ⟨ρ, fp, e, ?_⟩
      simp only [asgS] at hq
      cases hs : a.sem ρ with
      | stuck => rw [hs] at hq; exact hq
      | ex c t ρ' => rw [hs] at hq; exact fun d H' fp' e' s' x => hq d σ H' fp' e' s' Agree.refl x
      | ok o ρ' τ =>
        rw [hs] at hq
        cases o with
        | p i q => exact hq.elim
        | v t =>
          simp only at hq
          cases ht : tg.sem t ρ' with
          | none => rw [ht] at hq; exact hq.elim
          | some ρ2 =>
            rw [ht] at hq
            exact fun v H' fp' fo e' s' q' r' => gk t v fo σ H' ρ' ρ2 fp' D.nx e' r' s'.nd s'.dj ht fun σ2 fp2 e2 hin ag => asg_fin hq s' e2 hin.1 ag
    · cases h
/-- o[i] = e, o a list -/
def setF : List T → FR
  | [t, .lst ts, .int i] => match ixN ts.length i with
    | some k => .ok .non [none, some (.lst (ts.set k t)), some (.int i)]
    | none => .stuck
  | _ => .stuck
theorem reps_put {K : PySem.W.Frag} {H : Hp} {ts : List T} {vs : List V} {f : List Addr} {k : Nat} {s : T} {w : V} {g : List Addr} (r : Reps K H ts vs f) (hk : k < ts.length) (rs : Rep K H s w g) :
    ∃ f1 f0 f2, f = f1 ++ f0 ++ f2 ∧ Reps K H (ts.set k s) (vs.set k w) (f1 ++ g ++ f2) := by
  obtain ⟨v, f1, f0, f2, a, b, c, d1, d2⟩ := Reps.get r (List.getElem?_eq_getElem hk)
  refine ⟨f1, f0, f2, b, ?_⟩
  have hv : k < vs.length := by rw [r.len]; exact hk
  rw [List.set_eq_take_append_cons_drop, if_pos hk, List.set_eq_take_append_cons_drop, if_pos hv, List.append_assoc]
  exact Reps.append d1 ⟨w, _, g, f2, rfl, rfl, rs, d2⟩
theorem set_ok (X : Cx) (xi : XI) : ∀ vs H Q E, spF X.K xi 3 setF vs H Q E → (match vs with | [v, o, i] => rSetL o i v H (fun H' => Q .non H') | _ => False) := by
  intro vs H Q E h
  obtain ⟨ts, fp, hl, e, h⟩ := h
  rcases ts with _ | ⟨t, _ | ⟨s, _ | ⟨u, _ | ⟨z, ts⟩⟩⟩⟩ <;> simp at hl
  have hv : vs.length = 3 := by simpa using e.len
  rcases vs with _ | ⟨y, _ | ⟨x, _ | ⟨z, _ | ⟨z', vs⟩⟩⟩⟩ <;> simp at hv
  obtain ⟨y', hy, r2⟩ := e.rep 0 t rfl
  obtain ⟨x', hx, r1⟩ := e.rep 1 s rfl
  obtain ⟨z', hz, r3⟩ := e.rep 2 u rfl
  have e1 : y = y' := by simpa using hy
  have e2 : x = x' := by simpa using hx
  have e3 : z = z' := by simpa using hz
  subst e1 e2 e3
  cases s <;> first | exact (show False from h).elim | skip
  rename_i us
  cases u <;> first | exact (show False from h).elim | skip
  rename_i i
  obtain ⟨rfl, ef2⟩ := r3
  simp only [setF] at h
  cases hk : ixN us.length i with
  | none => rw [hk] at h; exact h.elim
  | some k =>
    rw [hk] at h
    obtain ⟨a, ws, g, rfl, ef, ha, rs⟩ := r1
    have klt : k < us.length := (ixN_seq hk).2.1
    have n1 := e.nd 1
    rw [ef] at n1
    have na := List.nodup_cons.mp n1
    have dj : ∀ b, b ∈ fp 0 → b ∉ fp 1 := fun b h1 h2 => by have := e.dj 0 1 b h1 h2; omega
    have nd0 := e.nd 0
    have kp : Keep (· = a) H (upd H a (.lst (ws.set k y))) := upd_keep
    have lo := lists_one ha
    have k1 : ∀ b ∈ g, ¬ b = a := fun b hb z => na.1 (z ▸ hb)
    have k2 : ∀ b ∈ fp 0, ¬ b = a := fun b hb z => dj b hb (by rw [ef, z]; exact List.mem_cons_self)
    obtain ⟨f1, f0, f2, rfl, rn⟩ := reps_put (rs.keep kp lo k1) klt (r2.keep kp lo k2)
    refine ⟨a, ws, i, k, rfl, rfl, ha, by rw [rs.len]; exact hk, ?_⟩
    have n2 := List.nodup_append.mp na.2
    have n3 := List.nodup_append.mp n2.1
    have inG : ∀ b, b ∈ f1 ∨ b ∈ f2 → b ∈ f1 ++ f0 ++ f2 := fun b hb => by rcases hb with hb | hb <;> simp [hb]
    have not0 : ∀ b, b ∈ f1 ++ f0 ++ f2 → b ∉ fp 0 := fun b hb h0 => dj b h0 (by rw [ef]; exact List.mem_cons_of_mem _ hb)
    have R : Rep X.K (upd H a (.lst (ws.set k y))) (.lst (us.set k t)) (.ref a) (a :: (f1 ++ fp 0 ++ f2)) := ⟨a, _, _, rfl, rfl, upd_same, rn⟩
    have nd : (a :: (f1 ++ fp 0 ++ f2)).Nodup := by
      refine List.nodup_cons.mpr ⟨fun z => ?_, List.nodup_append.mpr ⟨List.nodup_append.mpr ⟨n3.1, nd0, fun b hb c hc z => not0 b (inG b (.inl hb)) (z ▸ hc)⟩, n2.2.1, fun b hb c hc z => ?_⟩⟩
      · rcases List.mem_append.mp z with z | z
        · rcases List.mem_append.mp z with z | z
          · exact na.1 (inG a (.inl z))
          · exact dj a z (by rw [ef]; exact List.mem_cons_self)
        · exact na.1 (inG a (.inr z))
      · subst z
        rcases List.mem_append.mp hb with hb | hb
        · exact n2.2.2 b (List.mem_append_left _ hb) b hc rfl
        · exact not0 b (inG b (.inr hc)) hb
    have sub : ∀ b, b ∈ a :: (f1 ++ fp 0 ++ f2) → In fp b := fun b hb => by
      rcases List.mem_cons.mp hb with rfl | hb
      · exact ⟨1, by rw [ef]; exact List.mem_cons_self⟩
      · rcases List.mem_append.mp hb with hb | hb
        · rcases List.mem_append.mp hb with hb | hb
          · exact ⟨1, by rw [ef]; exact List.mem_cons_of_mem _ (inG b (.inl hb))⟩
          · exact ⟨0, hb⟩
        · exact ⟨1, by rw [ef]; exact List.mem_cons_of_mem _ (inG b (.inr hb))⟩
    refine h .non _ (fun j => if j = 1 then a :: (f1 ++ fp 0 ++ f2) else []) [] ⟨rfl, fun j s hj => ?_, fun j hj => ?_, fun j => ?_, fun j k b h1 h2 => ?_⟩ ⟨fun b u hb hn => by rw [upd_ne (fun z => hn (by rw [z]; exact ⟨1, by rw [ef]; exact List.mem_cons_self⟩))]; exact hb, fun b hb => .inl ?_, .nil, fun _ hb => by cases hb⟩ ⟨rfl, rfl⟩
    · rcases j with _ | _ | _ | j
      · simp at hj
      · have es : T.lst (us.set k t) = s := by simpa using hj
        subst es
        exact ⟨.ref a, rfl, by simpa using R⟩
      · have es : T.int i = s := by simpa using hj
        subst es
        exact ⟨.int i, rfl, rfl, by simp⟩
      · simp at hj
    · by_cases c : j = 1
      · subst c; exact absurd rfl (hj _)
      · simp [c]
    · by_cases c : j = 1
      · simp only [if_pos c]; exact nd
      · simp only [if_neg c]; exact .nil
    · by_cases c : j = 1
      · by_cases c' : k = 1
        · rw [c, c']
        · simp only [if_neg c'] at h2; cases h2
      · simp only [if_neg c] at h1; cases h1
    · rcases hb with ⟨j, hb⟩ | hb
      · by_cases c : j = 1
        · simp only [if_pos c] at hb; exact sub b hb
        · simp only [if_neg c] at hb; cases hb
      · cases hb
def effS (s : Rho → R) : Rho → RS := fun ρ => match s ρ with
  | .ok _ ρ' _ => .nx ρ'
  | .ex c t ρ' => .ex c t ρ'
  | .stuck => .stuck
theorem tE.nx {K : PySem.W.Frag} {xi : XI} {W : WX} {s : Rho → R} {D : Ends} {σ : L2.St} {H : Hp} (h : tS K xi W [] (effS s) D σ H) : tE K xi W s σ H fun _ H' => D.nx σ H' := by
  obtain ⟨ρ, fp, e, h⟩ := h
  refine ⟨ρ, fp, e, ?_⟩
  simp only [effS] at h
  cases hs : s ρ with
  | stuck => rw [hs] at h; exact h
  | ex c t ρ' => rw [hs] at h; exact fun d H' fp' e' s' x => h d σ H' fp' e' s' Agree.refl x
  | ok o ρ' τ => rw [hs] at h; exact fun v H' fp' fo e' s' q' r' => h σ H' fp' e' s'.drop Agree.refl
def sSetIx (o i a : Ex) : Sx where
  sem := effS (effSem 3 [a.sem, o.sem, i.sem] setF)
  asg := []
  m := fun N sc cm s => match s with
    | .Assign [.Subscript x y _] z _ => notSlice y && (o.m N sc cm x && (i.m N sc cm y && a.m N sc cm z))
    | _ => false
  pre := fun Γ k => o.pre Γ k ∧ i.pre Γ k ∧ a.pre Γ k
  snd := fun {X xi N sc lvl cm W x} g p h => by
    split at h
    · simp only [Bool.and_eq_true] at h
      obtain ⟨h0, h1, h2, h3⟩ := h
      rename_i x y p1 z p2
      have hsw : swapsWithSole [.Subscript x y p1] z p2.line X.env = pure false := by
        show swapsWith z (some (.Subscript x y p1)) p2.line X.env = pure false
        cases z <;> rfl
      have ha : ∀ v, assign (.Subscript x y p1) X.env v = (do
          let ov ← holding [v] (eval x X.env)
          let iv ← holding [v, ov] (eval y X.env)
          standAt p1
          holding [v, ov, iv] (setItem ov iv v)
          release [v, ov, iv] []) := by
        intro v
        cases y <;> first | rfl | cases h0
      refine PS.to (ps_asg (a.snd g.toGd p.2.2 h3) (pg_sub (o.snd g.toGd p.1 h1) (i.snd g.toGd p.2.1 h2) set_list ha) hsw (by cases z <;> rfl) rfl) fun D σ H hq => ?_
      exact eff_to (r := fun _ vs H Q => match vs with | [v, o, i] => rSetL o i v H (fun H' => Q .non H') | _ => False) (fun vs H Q z => set_ok X xi vs H Q _ z) (tE.nx hq)
    · cases h

/-! ### while -/
def whileF : Nat → (Rho → RB) → (Rho → RS) → Rho → RS
  | 0, _, _, _ => .stuck
  | n + 1, c, b, ρ => match c ρ with
    | .ok k ρ1 _ => if k = true then (match b ρ1 with
        | .nx ρ2 => whileF n c b ρ2
        | .ct ρ2 => whileF n c b ρ2
        | .bk ρ2 => .nx ρ2
        | x => x) else .nx ρ1
    | .ex x t ρ1 => .ex x t ρ1
    | .stuck => .stuck
def sWhile (fuel : Nat) (c : Bx) (b : Bl) : Sx where
  sem := whileF fuel c.sem b.sem
  asg := b.asg
  m := fun N sc cm s => match s with
    | .While t x [] _ => c.m N sc cm t && b.m N sc cm x
    | _ => false
  pre := fun Γ k => c.pre Γ k ∧ b.pre Γ k
  snd := fun {X xi N sc lvl cm W x} g p h => by
    split at h
    · simp only [Bool.and_eq_true] at h
      refine PS.to (ps_while g.hpo (c.snd g.toGd p.1 h.1) (b.snd g p.2 h.2)) fun D σ H hq => ?_
      refine ⟨fun m σ H => tS X.K xi W b.asg (whileF m c.sem b.sem) D σ H, ⟨fuel, hq⟩, fun m σ H hm => ?_⟩
      obtain ⟨ρ, fp, e, hm⟩ := hm
      cases m with
      | zero => exact hm.elim
      | succ n =>
        refine ⟨ρ, fp, e, ?_⟩
        simp only [whileF] at hm
        cases hc : c.sem ρ with
        | stuck => rw [hc] at hm; exact hm
        | ex c t ρ' => rw [hc] at hm; exact fun d H' fp' e' s' x => hm d σ H' fp' e' s' Agree.refl x
        | ok k ρ1 τ =>
          rw [hc] at hm
          simp only at hm
          intro H1 fp1 e1 s1 q1
          cases k with
          | false =>
            rw [if_neg Bool.false_ne_true] at hm ⊢
            exact hm σ H1 fp1 e1 s1 Agree.refl
          | true =>
            rw [if_pos rfl] at hm ⊢
            refine ⟨tS X.K xi W b.asg (whileF n c.sem b.sem) D, fun σ' H' z => ⟨n, Nat.lt_succ_self n, z⟩, ρ1, fp1, e1, ?_⟩
            cases hb : b.sem ρ1 with
            | stuck => rw [hb] at hm; exact hm
            | nx ρ2 => rw [hb] at hm; exact fun σ2 H2 fp2 e2 s2 a2 => ⟨ρ2, fp2, e2, hm.from (s1.trans0 s2) a2⟩
            | ct ρ2 => rw [hb] at hm; exact fun σ2 H2 fp2 e2 s2 a2 => ⟨ρ2, fp2, e2, hm.from (s1.trans0 s2) a2⟩
            | bk ρ2 => rw [hb] at hm; exact fun σ2 H2 fp2 e2 s2 a2 => hm σ2 H2 fp2 e2 (s1.trans0 s2) a2
            | ret t ρ2 => rw [hb] at hm; exact fun v σ2 H2 fp2 fo e2 s2 a2 r2 => hm v σ2 H2 fp2 fo e2 (s1.trans0 s2) a2 r2
            | ex x t ρ2 => rw [hb] at hm; exact fun d σ2 H2 fp2 e2 s2 a2 x => hm d σ2 H2 fp2 e2 (s1.trans0 s2) a2 x
    · cases h

/-! ### what a loop walks -/
inductive RI where
  | ok (items : List T) (ρ : Rho) (τ : Bool) (w : Bool) | ex (c : Nat) (t : T) (ρ : Rho) | stuck
/-- J yields these items as long as what G may change changes alone (w: as long as nothing changes) -/
def Serves (K : PySem.W.Frag) (J : It) (items : List T) (G : Addr → Prop) (H : Hp) (w : Bool) : Prop :=
  ∀ i H2, Keep (if w = true then fun _ => False else G) H H2 → (∀ t, items[i]? = some t → J.go i H2 ∧ ∀ x H3, J.yld i H2 x H3 → (∀ a o, H2 a = some o → H3 a = some o) ∧ Rep K H3 t x []) ∧ (items.length ≤ i → J.stop i H2)
def tI (K : PySem.W.Frag) (xi : XI) (W : WX) (sem : Rho → RI) : TI := fun σ H R => ∃ ρ fp, Env K ρ fp σ H ∧ match sem ρ with
  | .ok items ρ' τ w => ∀ J H' fp', Env K ρ' fp' σ H' → Step fp H fp' [] H' → (τ = false → Quiet ρ fp H ρ' fp' H') → Serves K J items (In fp') H' w → R J H'
  | .ex c t ρ' => ∀ d H' fp', Env K ρ' fp' σ H' → Step fp H fp' [] H' → XRep K xi H' d c t → W (.ref (xi.xc c)) (some d) σ H'
  | .stuck => False
structure Ix where
  sem : Rho → RI
  m : List Str → Scope → Bool → Expr → Expr → Bool
  pre : Gm → Nat → Prop
  snd : ∀ {X : Cx} {xi : XI} {N : List Str} {sc : Scope} {lvl : Nat} {cm : Bool} {W : WX} {tg x : Expr}, Gd X xi N sc lvl cm W → pre (gm X xi) lvl → m N sc cm tg x = true → ∃ wi, PI X tg x wi ∧ ∀ σ H R, tI X.K xi W sem σ H R → wi σ H R
theorem PI.or {X : Cx} {tg x : Expr} {w1 w2 : TI} (h1 : PI X tg x w1) (h2 : PI X tg x w2) : PI X tg x fun σ H R => w1 σ H R ∨ w2 σ H R :=
  ⟨fun pins s σ H R I h => h.elim (h1.run pins s σ H R I) (h2.run pins s σ H R I)⟩
def iLift (s : Rho → R) (f : Rho → O → Option (List T × Bool)) : Rho → RI := fun ρ => match s ρ with
  | .ok o ρ' τ => match f ρ' o with
    | some (items, w) => .ok items ρ' τ w
    | none => .stuck
  | .ex c t ρ' => .ex c t ρ'
  | .stuck => .stuck
def rangeL (lo hi : Int) : List T := (List.range (hi - lo).toNat).map fun (k : Nat) => T.int (lo + (k : Int))
def small62 (i : Int) : Bool := decide (-(2 ^ 62) ≤ i) && decide (i < 2 ^ 62)
theorem serves_range {K : PySem.W.Frag} {G : Addr → Prop} {H : Hp} {lo : Int} {n : Nat} {w : Bool} : Serves K (Itr lo n) ((List.range n).map fun (k : Nat) => T.int (lo + (k : Int))) G H w := by
  intro i H2 _
  refine ⟨fun t ht => ?_, fun h => by show n ≤ i; simpa using h⟩
  rw [List.getElem?_map] at ht
  by_cases hi : i < n
  · rw [List.getElem?_range hi] at ht
    cases ht
    refine ⟨hi, fun x H3 y => ?_⟩
    obtain ⟨rfl, rfl⟩ := y
    exact ⟨fun _ _ z => z, rfl, rfl⟩
  · rw [List.getElem?_eq_none (by simpa using hi)] at ht; cases ht
/-- for opSem-like arguments: a call of range -/
def rngSem (ss : List (Rho → R)) (f : List T → Option (List T)) : Rho → RI := fun ρ => match evL ss ρ with
  | .ok os ρ' τ => match getOs ρ' os with
    | some ts => match f ts with
      | some items => .ok items ρ' τ false
      | none => .stuck
    | none => .stuck
  | .ex c t ρ' => .ex c t ρ'
  | .stuck => .stuck
def rng1F : List T → Option (List T)
  | [.int j] => if small62 j = true then some (rangeL 0 j) else none
  | _ => none
def rng2F : List T → Option (List T)
  | [.int i, .int j] => if (small62 i && small62 j) = true then some (rangeL i j) else none
  | _ => none
def rng3F : List T → Option (List T)
  | [.int i, .int j, .int c] => if (decide (c = -1) && (small62 i && small62 j)) = true then some ((List.range (i - j).toNat).map fun (k : Nat) => T.int (i + (k : Int) * (-1))) else none
  | _ => none
theorem ors_vals {K : PySem.W.Frag} {ρ : Rho} {fp : Fp} {σ : L2.St} {H : Hp} (e : Env K ρ fp σ H) : ∀ {os : List O} {ts : List T} {vs : List V} {fo : List Addr}, ORs K ρ fp σ H os vs fo → getOs ρ os = some ts → ∃ fs : List (List Addr), fs.length = ts.length ∧ vs.length = ts.length ∧ ∀ (j : Nat) t, ts[j]? = some t → ∃ v f, vs[j]? = some v ∧ Rep K H t v f
  | [], ts, vs, fo, o, g => by
    cases g
    obtain ⟨rfl, _⟩ := o
    exact ⟨[], rfl, rfl, fun j t h => by simp at h⟩
  | a :: os, ts, vs, fo, o, g => by
    obtain ⟨v, ws, f1, f2, rfl, rfl, o1, o2⟩ := o
    simp only [getOs] at g
    cases ga : getO ρ a with
    | none => rw [ga] at g; cases g
    | some t =>
      rw [ga] at g
      cases gs : getOs ρ os with
      | none => rw [gs] at g; cases g
      | some us =>
        rw [gs] at g
        cases g
        obtain ⟨f, rf, _⟩ := o1.get e ga
        obtain ⟨fs, h1, h2, h3⟩ := ors_vals e o2 gs
        refine ⟨f :: fs, by simp [h1], by simp [h2], fun j s hj => ?_⟩
        cases j with
        | zero =>
          have : t = s := by simpa using hj
          subst this
          exact ⟨v, f, rfl, rf⟩
        | succ j => exact h3 j s (by simpa using hj)
theorem rng_to {K : PySem.W.Frag} {xi : XI} {W : WX} {ss : List (Rho → R)} {f : List T → Option (List T)} {r : List V → Hp → (It → Hp → Prop) → Prop}
    (ok : ∀ ts vs H items, f ts = some items → vs.length = ts.length → (∀ (j : Nat) t, ts[j]? = some t → ∃ v f, vs[j]? = some v ∧ Rep K H t v f) → ∀ R : It → Hp → Prop, (∀ J, (∀ G, Serves K J items G H false) → R J H) → r vs H R)
    {σ : L2.St} {H : Hp} {R : It → Hp → Prop} (h : tI K xi W (rngSem ss f) σ H R) : nest K xi W ss σ H fun vs H1 => r vs H1 R := by
  obtain ⟨ρ, fp, e, h⟩ := h
  refine nest_of ⟨ρ, fp, e, ?_⟩
  simp only [rngSem] at h
  cases hs : evL ss ρ with
  | stuck => rw [hs] at h; exact h
  | ex c t ρ1 => rw [hs] at h; exact h
  | ok os ρ1 τ1 =>
    rw [hs] at h
    simp only at h
    cases hg : getOs ρ1 os with
    | none => rw [hg] at h; exact h.elim
    | some ts =>
      rw [hg] at h
      simp only at h
      cases hf : f ts with
      | none => rw [hf] at h; exact h.elim
      | some items =>
        rw [hf] at h
        intro vs H1 fp1 fo1 e1 s1 q1 o1
        obtain ⟨_, _, h2, h3⟩ := ors_vals e1 o1 hg
        exact ok ts vs H1 items hf h2 h3 R fun J sv => h J H1 fp1 e1 s1.drop q1 (sv _)
theorem len_1 {α : Type} {l : List α} (h : l.length = 1) : ∃ x, l = [x] := by
  rcases l with _ | ⟨x, _ | ⟨y, l⟩⟩
  · cases h
  · exact ⟨x, rfl⟩
  · simp at h
theorem len_2 {α : Type} {l : List α} (h : l.length = 2) : ∃ x y, l = [x, y] := by
  rcases l with _ | ⟨x, _ | ⟨y, _ | ⟨z, l⟩⟩⟩
  · cases h
  · simp at h
  · exact ⟨x, y, rfl⟩
  · simp at h
theorem len_3 {α : Type} {l : List α} (h : l.length = 3) : ∃ x y z, l = [x, y, z] := by
  rcases l with _ | ⟨x, _ | ⟨y, _ | ⟨z, _ | ⟨u, l⟩⟩⟩⟩
  · cases h
  · simp at h
  · simp at h
  · exact ⟨x, y, z, rfl⟩
  · simp at h
theorem nest1 {K : PySem.W.Frag} {xi : XI} {W : WX} {a : Rho → R} : nest K xi W [a] = tCons (tE K xi W a) tNil := rfl
def iRange (n : Nat) (a : Xs) (f : List T → Option (List T)) (hn : n = 1 ∧ f = rng1F ∨ n = 2 ∧ f = rng2F ∨ n = 3 ∧ f = rng3F) : Ix where
  sem := rngSem a.sems f
  m := fun N sc cm tg e => match e with
    | .Call (.Name y _) es [] _ => decide (y = "range") && (glB sc y && (noStars es && (decide (es.length = n) && a.m N sc cm es)))
    | _ => false
  pre := fun Γ k => Γ.mg "range" = none ∧ a.pre Γ k
  snd := fun {X xi N sc lvl cm W tg e} g p h => by
    split at h
    · simp only [Bool.and_eq_true, decide_eq_true_eq] at h
      obtain ⟨rfl, h1, h2, h3, h4⟩ := h
      rename_i es pos p0
      have G := gl_of g.hsc h1
      have pa := a.snd g p.2 h4
      rcases hn with ⟨rfl, rfl⟩ | ⟨rfl, rfl⟩ | ⟨rfl, rfl⟩
      · obtain ⟨x, rfl⟩ := len_1 h3
        simp only [noStars, Bool.and_eq_true] at h2
        refine ⟨_, pi_range1 G.gl p.1 pa (by rw [starEach_of h2.1]; rfl), fun σ H R hq => rng_to (r := fun vs H1 R => ∃ j : Int, vs = [.int j] ∧ -(2 ^ 62) ≤ j ∧ j < 2 ^ 62 ∧ R (Itr 0 j.toNat) H1) (fun ts vs H items hf hl hv R k => ?_) hq⟩
        unfold rng1F at hf
        split at hf
        · rename_i j
          split at hf
          · rename_i c
            cases hf
            obtain ⟨v, f, hv0, r⟩ := hv 0 _ rfl
            rcases vs with _ | ⟨v', _ | ⟨w, vs⟩⟩ <;> simp at hl
            have : v' = v := by simpa using hv0
            subst this
            rw [r.1]
            simp only [small62, Bool.and_eq_true, decide_eq_true_eq] at c
            refine ⟨j, rfl, c.1, c.2, k _ fun G => ?_⟩
            have := serves_range (K := X.K) (G := G) (H := H) (lo := 0) (n := j.toNat) (w := false)
            simpa [rangeL] using this
          · cases hf
        · cases hf
      · obtain ⟨x, y, rfl⟩ := len_2 h3
        simp only [noStars, Bool.and_eq_true] at h2
        refine ⟨_, pi_range2 G.gl p.1 pa (by rw [starEach_of h2.1, starEach_of h2.2.1]; rfl) (by rw [starEach_of h2.2.1]; rfl), fun σ H R hq => rng_to (r := fun vs H1 R => ∃ i j : Int, vs = [.int i, .int j] ∧ (-(2 ^ 62) ≤ i ∧ i < 2 ^ 62 ∧ -(2 ^ 62) ≤ j ∧ j < 2 ^ 62) ∧ R (Itr i (j - i).toNat) H1) (fun ts vs H items hf hl hv R k => ?_) hq⟩
        unfold rng2F at hf
        split at hf
        · rename_i i j
          split at hf
          · rename_i c
            cases hf
            obtain ⟨v, f, hv0, r⟩ := hv 0 _ rfl
            obtain ⟨w, f', hw0, r'⟩ := hv 1 _ rfl
            rcases vs with _ | ⟨v', _ | ⟨w', _ | ⟨z', vs⟩⟩⟩ <;> simp at hl
            have e1 : v' = v := by simpa using hv0
            have e2 : w' = w := by simpa using hw0
            subst e1 e2
            rw [r.1, r'.1]
            simp only [small62, Bool.and_eq_true, decide_eq_true_eq] at c
            exact ⟨i, j, rfl, ⟨c.1.1, c.1.2, c.2.1, c.2.2⟩, k _ fun G => serves_range⟩
          · cases hf
        · cases hf
      · obtain ⟨x, y, z, rfl⟩ := len_3 h3
        simp only [noStars, Bool.and_eq_true] at h2
        refine ⟨_, pi_range3 G.gl p.1 pa (starEach_of h2.1) (anyStar_of (by simp [noStars, h2.2.1, h2.2.2])), fun σ H R hq => rng_to (r := fun vs H1 R => ∃ (i j c : Int) (n : Nat), vs = [.int i, .int j, .int c] ∧ RgC i j c n ∧ R (Itc i c n) H1) (fun ts vs H items hf hl hv R k => ?_) hq⟩
        unfold rng3F at hf
        split at hf
        · rename_i i j c0
          split at hf
          · rename_i c
            cases hf
            obtain ⟨v, f, hv0, r⟩ := hv 0 _ rfl
            obtain ⟨w, f', hw0, r'⟩ := hv 1 _ rfl
            obtain ⟨u, f'', hu0, r''⟩ := hv 2 _ rfl
            rcases vs with _ | ⟨v', _ | ⟨w', _ | ⟨u', _ | ⟨z', vs⟩⟩⟩⟩ <;> simp at hl
            have e1 : v' = v := by simpa using hv0
            have e2 : w' = w := by simpa using hw0
            have e3 : u' = u := by simpa using hu0
            subst e1 e2 e3
            rw [r.1, r'.1, r''.1]
            simp only [small62, Bool.and_eq_true, decide_eq_true_eq] at c
            obtain ⟨rfl, c1, c2⟩ := c
            refine ⟨i, j, -1, _, rfl, RgC.neg c1.1 c1.2 c2.1 c2.2, k _ fun G i2 H2 _ => ⟨fun t ht => ?_, fun h => by show (i - j).toNat ≤ i2; rw [List.length_map, List.length_range] at h; exact h⟩⟩
            rw [List.getElem?_map] at ht
            by_cases hi : i2 < (i - j).toNat
            · rw [List.getElem?_range hi] at ht
              cases ht
              refine ⟨hi, fun x H3 y => ?_⟩
              obtain ⟨rfl, rfl⟩ := y
              exact ⟨fun _ _ z => z, rfl, rfl⟩
            · rw [List.getElem?_eq_none (by simpa using hi)] at ht; cases ht
          · cases hf
        · cases hf
    · cases h
def iRange1 (a : Ex) : Ix := iRange 1 (xs [a]) rng1F (.inl ⟨rfl, rfl⟩)
def iRange2 (a b : Ex) : Ix := iRange 2 (xs [a, b]) rng2F (.inr (.inl ⟨rfl, rfl⟩))
def iRange3 (a b c : Ex) : Ix := iRange 3 (xs [a, b, c]) rng3F (.inr (.inr ⟨rfl, rfl⟩))
/-- a list, a tuple, a text -/
def signs (z : Str) : List T := z.cps.toList.map fun c => .str ⟨#[c]⟩
def seqI (ρ : Rho) (o : O) : Option (List T × Bool) := match getO ρ o with
  | some (.tup ts) => if T.imms ts = true then some (ts, false) else none
  | some (.lst ts) => if T.imms ts = true then some (ts, !o.isV) else none
  | some (.str z) => some (signs z, false)
  | some (.fro ns) => some (ns.map .int, false)
  | _ => none
theorem reps_at {K : PySem.W.Frag} {H : Hp} {ts : List T} {vs : List V} {i : Nat} {t : T} (r : Reps K H ts vs []) (h : ts[i]? = some t) : ∃ v, vs[i]? = some v ∧ Rep K H t v [] := by
  obtain ⟨v, f1, g, f2, a, b, c, _⟩ := Reps.get r h
  have : g = [] := by
    have := b.symm
    simp at this
    exact this.2.1
  subst this
  exact ⟨v, a, c⟩
theorem serves_list {K : PySem.W.Frag} {G : Addr → Prop} {H : Hp} {a : Addr} {ts : List T} {vs : List V} {w : Bool} (r : Reps K H ts vs []) (lo : Lists G H) (st : ∀ H2, Keep (if w = true then fun _ => False else G) H H2 → SqL K H2 a vs) : Serves K (Itl K a) ts G H w := by
  intro i H2 kp
  have sq := st H2 kp
  have r2 : Reps K H2 ts vs [] := by
    cases w with
    | true => exact r.ext fun a o z => kp a o z (fun z => by simp at z)
    | false => exact r.keep kp (by simpa using lo) (fun _ z => by cases z)
  refine ⟨fun t ht => ?_, fun h => ⟨vs, sq, by rw [r.len]; exact h⟩⟩
  obtain ⟨v, hv, rv⟩ := reps_at r2 ht
  refine ⟨⟨vs, v, sq, hv⟩, fun x H3 y => ?_⟩
  obtain ⟨rfl, y⟩ := y
  have z := y vs sq
  rw [hv] at z
  cases z
  exact ⟨fun _ _ z => z, rv⟩
theorem serves_tup {K : PySem.W.Frag} {G : Addr → Prop} {H : Hp} {a : Addr} {ts : List T} {vs : List V} (r : Reps K H ts vs []) (lo : Lists G H) (sq : H a = some (.tup vs)) : Serves K (Itt K a) ts G H false := by
  intro i H2 kp
  have kp' : Keep G H H2 := by simpa using kp
  have sq := SqT.of (K := K) (tup_keep kp' lo sq)
  have r2 : Reps K H2 ts vs [] := r.keep kp' lo (fun _ z => by cases z)
  refine ⟨fun t ht => ?_, fun h => ⟨vs, sq, by rw [r.len]; exact h⟩⟩
  obtain ⟨v, hv, rv⟩ := reps_at r2 ht
  refine ⟨⟨vs, v, sq, hv⟩, fun x H3 y => ?_⟩
  obtain ⟨rfl, y⟩ := y
  have z := y vs sq
  rw [hv] at z
  cases z
  exact ⟨fun _ _ z => z, rv⟩
theorem serves_str {K : PySem.W.Frag} {G : Addr → Prop} {H : Hp} {z : Str} : Serves K (Its z) (signs z) G H false := by
  intro i H2 _
  refine ⟨fun t ht => ?_, fun h => by show z.cps.size ≤ i; simpa [signs] using h⟩
  unfold signs at ht
  rw [List.getElem?_map] at ht
  have hc : z.cps.toList[i]? = z.cps[i]? := by simp
  rw [hc] at ht
  cases e : z.cps[i]? with
  | none => rw [e] at ht; cases ht
  | some c =>
    rw [e] at ht
    cases ht
    refine ⟨?_, fun x H3 y => ?_⟩
    · show i < z.cps.size
      by_cases h : i < z.cps.size
      · exact h
      · rw [Array.getElem?_eq_none (by omega)] at e; cases e
    · obtain ⟨rfl, c', e', rfl⟩ := y
      rw [e] at e'
      cases e'
      exact ⟨fun _ _ z => z, rfl, rfl⟩
def iSeq (a : Ex) : Ix where
  sem := iLift a.sem seqI
  m := fun N sc cm tg e => a.m N sc cm e
  pre := a.pre
  snd := fun {X xi N sc lvl cm W tg e} g p h => by
    have pa := a.snd g p h
    refine ⟨_, PI.or (pi_list pa) (PI.or (pi_tup pa) (pi_str pa)), fun σ H R hq => ?_⟩
    obtain ⟨ρ, fp, e, hq⟩ := hq
    simp only [iLift] at hq
    cases hs : a.sem ρ with
    | stuck => rw [hs] at hq; exact hq.elim
    | ex c t ρ' =>
      rw [hs] at hq
      exact .inl ⟨ρ, fp, e, by rw [hs]; exact hq⟩
    | ok o ρ' τ =>
      rw [hs] at hq
      simp only at hq
      cases hg : getO ρ' o with
      | none => simp only [seqI, hg] at hq
      | some t =>
        cases t with
        | tup ts =>
          by_cases c : T.imms ts = true
          case neg => simp only [seqI, hg, if_neg c] at hq
          simp only [seqI, hg, if_pos c] at hq
          refine .inr (.inl ⟨ρ, fp, e, ?_⟩)
          rw [hs]
          intro v H' fp' fo e' s' q' r'
          obtain ⟨f, rf, _⟩ := r'.get e' hg
          obtain ⟨b, vs, rfl, sq, rs⟩ := rf
          have z := rs.imm_nil c
          subst z
          exact ⟨b, rfl, ⟨vs, SqT.of sq⟩, hq _ H' fp' e' s'.drop q' (serves_tup rs e'.own sq)⟩
        | lst ts =>
          by_cases c : T.imms ts = true
          case neg => simp only [seqI, hg, if_neg c] at hq
          simp only [seqI, hg, if_pos c] at hq
          refine .inl ⟨ρ, fp, e, ?_⟩
          rw [hs]
          intro v H' fp' fo e' s' q' r'
          obtain ⟨f, rf, _, hf⟩ := r'.get e' hg
          obtain ⟨b, vs, g', rfl, ef, sq, rs⟩ := rf
          have z := rs.imm_nil c
          subst z
          refine ⟨b, rfl, ⟨vs, SqL.of sq⟩, hq _ H' fp' e' s'.drop q' (serves_list rs e'.own fun H2 kp => ?_)⟩
          cases ho : o.isV with
          | true =>
            rw [ho] at kp
            have hb : b ∈ fo := by rw [← hf ho, ef]; exact List.mem_cons_self
            exact SqL.of (kp b _ sq (fun z => s'.dj b hb (by simpa using z)))
          | false =>
            rw [ho] at kp
            exact SqL.of (kp b _ sq (fun z => by simp at z))
        | str z =>
          simp only [seqI, hg] at hq
          refine .inr (.inr ⟨ρ, fp, e, ?_⟩)
          rw [hs]
          intro v H' fp' fo e' s' q' r'
          obtain ⟨f, rf, _⟩ := r'.get e' hg
          exact ⟨z, rf.1, hq _ H' fp' e' s'.drop q' serves_str⟩
        | fro ns =>
          simp only [seqI, hg] at hq
          refine .inl ⟨ρ, fp, e, ?_⟩
          rw [hs]
          intro v H' fp' fo e' s' q' r'
          obtain ⟨f, rf, _⟩ := r'.get e' hg
          obtain ⟨_, b, rfl, hb⟩ := rf
          have sq : SqL X.K H' b (ns.map .int) := by
            rcases hb with ⟨o, hb⟩ | hb
            · exact .inl (.inr ⟨o, hb⟩)
            · exact hb H'
          refine ⟨b, rfl, ⟨_, sq⟩, hq _ H' fp' e' s'.drop q' (serves_list (vs := ns.map .int) (reps_ints ns) e'.own fun H2 kp => ?_)⟩
          rcases hb with ⟨o, hb⟩ | hb
          · refine .inl (.inr ⟨o, kp b _ hb fun z => ?_⟩)
            obtain ⟨xs, w, cw⟩ := e'.own b (by simpa using z)
            rw [hb] at w; cases w
            exact cw
          · exact hb H2
        | _ => simp only [seqI, hg] at hq

/-! ### for -/
def forF (set : T → Rho → Option Rho) (b : Rho → RS) : List T → Rho → RS
  | [], ρ => .nx ρ
  | t :: ts, ρ => match set t ρ with
    | some ρ1 => match b ρ1 with
      | .nx ρ2 => forF set b ts ρ2
      | .ct ρ2 => forF set b ts ρ2
      | .bk ρ2 => .nx ρ2
      | x => x
    | none => .stuck
def forS (it : Rho → RI) (set : T → Rho → Option Rho) (b : Rho → RS) : Rho → RS := fun ρ => match it ρ with
  | .ok items ρ' _ w => if w = true then .stuck else forF set b items ρ'
  | .ex c t ρ' => .ex c t ρ'
  | .stuck => .stuck
theorem folded_of {x : Expr} {env : PySem.Env} (h : notSet x = true) : ∀ v, foldedSetIterable x env v = pure v := by
  intro v
  cases x <;> first | rfl | cases h
def sFor (tg : Tgt) (it : Ix) (b : Bl) : Sx where
  sem := forS it.sem tg.sem b.sem
  asg := tg.asg ++ b.asg
  m := fun N sc cm s => match s with
    | .For t x y [] _ => cm && (notSet x && (tg.m N sc false t && (it.m N sc cm t x && b.m N sc cm y)))
    | _ => false
  pre := fun Γ k => it.pre Γ k ∧ b.pre Γ k
  snd := fun {X xi N sc lvl cm W x} g p h => by
    split at h
    · simp only [Bool.and_eq_true] at h
      obtain ⟨hc, h1, h2, h3, h4⟩ := h
      obtain ⟨gg, hg, gk⟩ := tg.snd g.hN g.nd g.hsc (g.hcm hc) (fun _ => g.fnok) h2
      obtain ⟨wi, hi, ik⟩ := it.snd g.toGd p.1 h3
      refine PS.to (ps_for g.hpo (g.hcm hc) hi hg (b.snd g p.2 h4) (folded_of h1)) fun D σ H hq => ?_
      refine ik σ H _ ?_
      obtain ⟨ρ, fp, e, hq⟩ := hq
      refine ⟨ρ, fp, e, ?_⟩
      simp only [forS] at hq
      cases hs : it.sem ρ with
      | stuck => rw [hs] at hq; exact hq
      | ex c t ρ' => rw [hs] at hq; exact fun d H' fp' e' s' x => hq d σ H' fp' e' s' Agree.refl x
      | ok items ρ' τ w =>
        rw [hs] at hq
        simp only at hq
        cases w with
        | true => rw [if_pos rfl] at hq; exact hq.elim
        | false =>
          rw [if_neg Bool.false_ne_true] at hq
          intro J H1 fp1 e1 s1 q1 sv
          refine ⟨fun i m σ2 H2 => i ≤ items.length ∧ m = items.length - i ∧ ∃ ρ2 fp2, Env X.K ρ2 fp2 σ2 H2 ∧ Step fp1 H1 fp2 [] H2 ∧ postS X.K xi W (tg.asg ++ b.asg) σ2 fp2 H2 D (forF tg.sem b.sem (items.drop i) ρ2),
            ⟨items.length, Nat.zero_le _, rfl, ρ', fp1, e1, Step.refl, by simpa using hq.from s1 Agree.refl⟩, ?_⟩
          rintro i m σ2 H2 ⟨hle, rfl, ρ2, fp2, e2, s2, po⟩
          obtain ⟨sgo, sstop⟩ := sv i H2 (by simpa using s2.keep)
          by_cases hlt : i < items.length
          · have hi' : items[i]? = some items[i] := List.getElem?_eq_getElem hlt
            obtain ⟨go, yl⟩ := sgo _ hi'
            refine .inr ⟨go, fun σ3 H3 => ∃ ρ3 fp3, Env X.K ρ3 fp3 σ3 H3 ∧ Step fp1 H1 fp3 [] H3 ∧ postS X.K xi W (tg.asg ++ b.asg) σ3 fp3 H3 D (forF tg.sem b.sem (items.drop (i + 1)) ρ3), fun σ3 H3 z => ⟨items.length - (i + 1), by omega, by omega, rfl, z⟩, fun x H3 y => ?_⟩
            obtain ⟨k3, r3⟩ := yl x H3 y
            rw [List.drop_eq_getElem_cons hlt] at po
            simp only [forF] at po
            cases ht : tg.sem items[i] ρ2 with
            | none => rw [ht] at po; exact po.elim
            | some ρ3 =>
              rw [ht] at po
              simp only at po
              refine gk _ x [] σ2 H3 ρ2 ρ3 fp2 _ (e2.ext k3) r3 .nil (fun _ z => by cases z) ht fun σ3 fp3 e3 ⟨hin, _⟩ ag3 => ?_
              have s3 : Step fp2 H2 fp3 [] H3 := ⟨fun a o z n => k3 a o z, fun a z => .inl (z.elim (fun z => (hin a z).elim id (fun z => by cases z)) (fun z => by cases z)), List.nodup_nil, fun _ z => by cases z⟩
              refine ⟨ρ3, fp3, e3, ?_⟩
              have ag3' : Agree (tg.asg ++ b.asg) σ2 σ3 := ag3.more fun i z => List.mem_append_left _ z
              have lb : ∀ i ∈ b.asg, i ∈ tg.asg ++ b.asg := fun i z => List.mem_append_right _ z
              have s03 := s2.trans0 s3
              cases hb : b.sem ρ3 with
              | stuck => rw [hb] at po; exact po
              | nx ρ4 => rw [hb] at po; exact fun σ4 H4 fp4 e4 s4 a4 => ⟨ρ4, fp4, e4, s03.trans0 s4, po.from (s3.trans0 s4) (ag3'.trans (a4.more lb))⟩
              | ct ρ4 => rw [hb] at po; exact fun σ4 H4 fp4 e4 s4 a4 => ⟨ρ4, fp4, e4, s03.trans0 s4, po.from (s3.trans0 s4) (ag3'.trans (a4.more lb))⟩
              | bk ρ4 => rw [hb] at po; exact fun σ4 H4 fp4 e4 s4 a4 => po σ4 H4 fp4 e4 (s3.trans0 s4) (ag3'.trans (a4.more lb))
              | ret t ρ4 => rw [hb] at po; exact fun v σ4 H4 fp4 fo e4 s4 a4 r4 => po v σ4 H4 fp4 fo e4 (s3.trans0 s4) (ag3'.trans (a4.more lb)) r4
              | ex c t ρ4 => rw [hb] at po; exact fun d σ4 H4 fp4 e4 s4 a4 x => po d σ4 H4 fp4 e4 (s3.trans0 s4) (ag3'.trans (a4.more lb)) x
          · have ei : i = items.length := by omega
            subst ei
            rw [List.drop_length] at po
            exact .inl ⟨sstop (Nat.le_refl _), po σ2 H2 fp2 e2 Step.refl Agree.refl⟩
    · cases h
end Pv
set_option Elab.async false
set_option linter.all false
set_option maxRecDepth 100000
set_option maxHeartbeats 2000000
/-! Pv part K: list comprehensions. -/
namespace Pv
open PySem L2

def wipeR (ρ : Rho) : List Nat → Rho
  | [] => ρ
  | v :: vs => (wipeR ρ vs).set v none
theorem wipeR_length (ρ : Rho) : ∀ vs : List Nat, (wipeR ρ vs).length = ρ.length
  | [] => rfl
  | v :: vs => by unfold wipeR; rw [List.length_set, wipeR_length ρ vs]
theorem wipeR_out {ρ : Rho} {i : Nat} : ∀ {vs : List Nat}, i ∉ vs → (wipeR ρ vs)[i]? = ρ[i]?
  | [], _ => rfl
  | v :: vs, h => by
    have h1 : v ≠ i := fun e => h (by rw [e]; exact List.mem_cons_self)
    have h2 : i ∉ vs := fun m => h (List.mem_cons_of_mem _ m)
    unfold wipeR
    rw [List.getElem?_set_ne h1]
    exact wipeR_out h2
theorem wipeR_in {ρ : Rho} {i : Nat} : ∀ {vs : List Nat}, i ∈ vs → i < ρ.length → (wipeR ρ vs)[i]? = some none
  | v :: vs, h, hl => by
    unfold wipeR
    by_cases e : v = i
    · subst e
      rw [List.getElem?_set_self (by rw [wipeR_length]; exact hl)]
    · rw [List.getElem?_set_ne e]
      exact wipeR_in (by rcases List.mem_cons.mp h with h | h; exact absurd h.symm e; exact h) hl
theorem wipe_in {σ : L2.St} {i : Nat} : ∀ {vs : List Nat}, i ∈ vs → i < σ.length → (wipe σ vs)[i]? = some none
  | v :: vs, h, hl => by
    unfold wipe
    by_cases e : v = i
    · subst e
      rw [List.getElem?_set_self (by rw [wipe_length]; exact hl)]
    · rw [List.getElem?_set_ne e]
      exact wipe_in (by rcases List.mem_cons.mp h with h | h; exact absurd h.symm e; exact h) hl
theorem wipe_same {σ σ2 : L2.St} {vs : List Nat} (hl : σ2.length = σ.length) (ag : ∀ i, i ∉ vs → σ2[i]? = σ[i]?) : wipe σ2 vs = wipe σ vs := by
  refine List.ext_getElem? fun i => ?_
  by_cases h : i ∈ vs
  · by_cases hi : i < σ.length
    · rw [wipe_in h hi, wipe_in h (by omega)]
    · rw [List.getElem?_eq_none (by rw [wipe_length]; omega), List.getElem?_eq_none (by rw [wipe_length]; omega)]
  · rw [wipe_out h, wipe_out h, ag i h]
theorem wipeR_same {ρ ρ2 : Rho} {vs : List Nat} (hl : ρ2.length = ρ.length) (ag : ∀ i, i ∉ vs → ρ2[i]? = ρ[i]?) : wipeR ρ2 vs = wipeR ρ vs := by
  refine List.ext_getElem? fun i => ?_
  by_cases h : i ∈ vs
  · by_cases hi : i < ρ.length
    · rw [wipeR_in h hi, wipeR_in h (by omega)]
    · rw [List.getElem?_eq_none (by rw [wipeR_length]; omega), List.getElem?_eq_none (by rw [wipeR_length]; omega)]
  · rw [wipeR_out h, wipeR_out h, ag i h]
theorem wipe_wipe (σ : L2.St) (vs : List Nat) : wipe (wipe σ vs) vs = wipe σ vs := wipe_same (wipe_length σ vs) fun i h => wipe_out h
def fpW (fp : Fp) (vs : List Nat) : Fp := fun i => if vs.contains i = true then [] else fp i
theorem in_fpW {fp : Fp} {vs : List Nat} {a : Addr} (h : In (fpW fp vs) a) : In fp a := by
  obtain ⟨i, h⟩ := h
  unfold fpW at h
  split at h
  · cases h
  · exact ⟨i, h⟩
theorem Env.wiped {K : PySem.W.Frag} {ρ : Rho} {fp : Fp} {σ : L2.St} {H : Hp} (e : Env K ρ fp σ H) (vs : List Nat) : Env K (wipeR ρ vs) (fpW fp vs) (wipe σ vs) H := by
  refine ⟨by rw [wipe_length, wipeR_length]; exact e.len, fun i t h => ?_, fun i h => ?_, fun i => ?_, fun i j a h1 h2 => ?_⟩
  · by_cases c : i ∈ vs
    · by_cases hl : i < ρ.length
      · rw [wipeR_in c hl] at h; cases h
      · rw [List.getElem?_eq_none (by rw [wipeR_length]; omega)] at h; cases h
    · rw [wipeR_out c] at h
      obtain ⟨v, hv, r⟩ := e.rep i t h
      exact ⟨v, by rw [wipe_out c]; exact hv, by unfold fpW; rw [if_neg (by simpa using c)]; exact r⟩
  · unfold fpW
    by_cases c : i ∈ vs
    · rw [if_pos (by simpa using c)]
    · rw [if_neg (by simpa using c)]
      exact e.emp i fun t ht => h t (by rw [wipeR_out c]; exact ht)
  · unfold fpW
    split
    · exact .nil
    · exact e.nd i
  · unfold fpW at h1 h2
    split at h1
    · cases h1
    · split at h2
      · cases h2
      · exact e.dj i j a h1 h2
/-- the block's own slots get back what they held -/
def unwipe (ρ0 ρ : Rho) : List Nat → Rho
  | [] => ρ
  | v :: vs => (unwipe ρ0 ρ vs).set v (ρ0.getD v none)
theorem unwipe_length (ρ0 ρ : Rho) : ∀ vs : List Nat, (unwipe ρ0 ρ vs).length = ρ.length
  | [] => rfl
  | v :: vs => by unfold unwipe; rw [List.length_set, unwipe_length ρ0 ρ vs]
theorem unwipe_out {ρ0 ρ : Rho} {i : Nat} : ∀ {vs : List Nat}, i ∉ vs → (unwipe ρ0 ρ vs)[i]? = ρ[i]?
  | [], _ => rfl
  | v :: vs, h => by
    have h1 : v ≠ i := fun e => h (by rw [e]; exact List.mem_cons_self)
    have h2 : i ∉ vs := fun m => h (List.mem_cons_of_mem _ m)
    unfold unwipe
    rw [List.getElem?_set_ne h1]
    exact unwipe_out h2
theorem unwipe_in {ρ0 ρ : Rho} {i : Nat} : ∀ {vs : List Nat}, i ∈ vs → i < ρ.length → (unwipe ρ0 ρ vs)[i]? = some (ρ0.getD i none)
  | v :: vs, h, hl => by
    unfold unwipe
    by_cases e : v = i
    · subst e
      rw [List.getElem?_set_self (by rw [unwipe_length]; exact hl)]
    · rw [List.getElem?_set_ne e]
      exact unwipe_in (by rcases List.mem_cons.mp h with h | h; exact absurd h.symm e; exact h) hl
/-- the block's own slots hold nothing that may change -/
def calmAt (ρ : Rho) (vs : List Nat) : Bool := vs.all fun i => match ρ[i]? with
  | some (some t) => t.imm
  | _ => true
theorem calm_at {ρ : Rho} {vs : List Nat} (h : calmAt ρ vs = true) {i : Nat} {t : T} (hi : i ∈ vs) (ht : ρ[i]? = some (some t)) : t.imm = true := by
  have z := List.all_eq_true.mp h i hi
  simp only [ht] at z
  exact z
theorem calm_fp {K : PySem.W.Frag} {ρ : Rho} {fp : Fp} {σ : L2.St} {H : Hp} (e : Env K ρ fp σ H) {vs : List Nat} (h : calmAt ρ vs = true) : fpW fp vs = fp := by
  funext i
  unfold fpW
  by_cases c : i ∈ vs
  · rw [if_pos (by simpa using c)]
    by_cases ht : ∃ t, ρ[i]? = some (some t)
    · obtain ⟨t, ht⟩ := ht
      obtain ⟨v, _, r⟩ := e.rep i t ht
      exact (r.imm_nil (calm_at h c ht)).symm
    · exact (e.emp i fun t z => ht ⟨t, z⟩).symm
  · rw [if_neg (by simpa using c)]
theorem unwipe_wipe (ρ : Rho) (vs : List Nat) : unwipe ρ (wipeR ρ vs) vs = ρ := by
  refine List.ext_getElem? fun i => ?_
  by_cases h : i ∈ vs
  · by_cases hl : i < ρ.length
    · rw [unwipe_in h (by rw [wipeR_length]; exact hl), List.getElem?_eq_getElem hl, List.getD_eq_getElem?_getD, List.getElem?_eq_getElem hl]; rfl
    · rw [List.getElem?_eq_none (by rw [unwipe_length, wipeR_length]; omega), List.getElem?_eq_none (by omega)]
  · rw [unwipe_out h, wipeR_out h]
theorem Env.upd {K : PySem.W.Frag} {ρ : Rho} {fp : Fp} {σ : L2.St} {H : Hp} (e : Env K ρ fp σ H) {D : Addr} {vs ws : List V} (h : H D = some (.lst vs)) (d : ¬ In fp D) : Env K ρ fp σ (L2.upd H D (.lst ws)) :=
  ⟨e.len, fun i t ht => by
    obtain ⟨v, hv, r⟩ := e.rep i t ht
    exact ⟨v, hv, Rep.keep upd_keep (lists_one h) (fun a ha z => d ⟨i, z ▸ ha⟩) r⟩, e.emp, e.nd, e.dj⟩
theorem Env.unwiped {K : PySem.W.Frag} {ρ ρ2 : Rho} {fp fp2 : Fp} {σ : L2.St} {H H2 : Hp} {vs : List Nat} {fo : List Addr} (e : Env K ρ fp σ H) (e2 : Env K ρ2 fp2 (wipe σ vs) H2) (c : calmAt ρ vs = true) (s : Step fp H fp2 fo H2) (hn : ∀ j ∈ vs, ∀ t, ρ2[j]? ≠ some (some t)) :
    Env K (unwipe ρ ρ2 vs) fp2 σ H2 := by
  refine ⟨by rw [unwipe_length, ← e2.len, wipe_length], fun i t h => ?_, fun i h => ?_, e2.nd, e2.dj⟩
  · by_cases hi : i ∈ vs
    · by_cases hl : i < ρ2.length
      · rw [unwipe_in hi hl] at h
        have ht : ρ[i]? = some (some t) := by
          rw [List.getD_eq_getElem?_getD] at h
          cases z : ρ[i]? with
          | none => rw [z] at h; cases h
          | some o => rw [z] at h; exact h
        obtain ⟨v, hv, r⟩ := e.rep i t ht
        have z := r.imm_nil (calm_at c hi ht)
        rw [z] at r
        refine ⟨v, hv, ?_⟩
        rw [e2.emp i (hn i hi)]
        exact Rep.keep s.keep e.own (fun _ z => by cases z) r
      · rw [List.getElem?_eq_none (by rw [unwipe_length]; omega)] at h; cases h
    · rw [unwipe_out hi] at h
      obtain ⟨v, hv, r⟩ := e2.rep i t h
      exact ⟨v, by rw [← hv, wipe_out hi], r⟩
  · by_cases hi : i ∈ vs
    · exact e2.emp i (hn i hi)
    · exact e2.emp i fun t ht => h t (by rw [unwipe_out hi]; exact ht)

inductive RC where
  | ok (acc : List T) (ρ : Rho) (τ : Bool) | stuck
def lcF (set : T → Rho → Option Rho) (tt : Rho → RB) (te : Rho → R) (vs : List Nat) : List T → List T → Rho → Bool → RC
  | [], acc, ρ, τ => .ok acc ρ τ
  | t :: ts, acc, ρ, τ => match set t ρ with
    | some ρ1 => match tt ρ1 with
      | .ok k ρ2 τ2 => if k = true then (match te ρ2 with
          | .ok (.v y) ρ3 τ3 => if acc.length < sizeLine then lcF set tt te vs ts (acc ++ [y]) (wipeR ρ3 vs) (τ || (τ2 || τ3)) else .stuck
          | _ => .stuck) else lcF set tt te vs ts acc (wipeR ρ2 vs) (τ || τ2)
      | _ => .stuck
    | none => .stuck
def lcSem (it : Rho → RI) (set : T → Rho → Option Rho) (tt : Rho → RB) (te : Rho → R) (vs : List Nat) : Rho → R := fun ρ => match it ρ with
  | .ok items ρ' τ w => if calmAt ρ' vs = true then (match lcF set tt te vs items [] (wipeR ρ' vs) false with
      | .ok acc ρ2 τ2 => if w = true ∧ τ2 = true then .stuck else .ok (.v (.lst acc)) (unwipe ρ' ρ2 vs) (τ || τ2)
      | .stuck => .stuck) else .stuck
  | .ex c t ρ' => .ex c t ρ'
  | .stuck => .stuck
/-- τ only grows -/
theorem lcF_tau {set : T → Rho → Option Rho} {tt : Rho → RB} {te : Rho → R} {vs : List Nat} : ∀ {ts acc : List T} {ρ : Rho} {τ : Bool} {acc' : List T} {ρ' : Rho} {τ' : Bool}, lcF set tt te vs ts acc ρ τ = .ok acc' ρ' τ' → τ' = false → τ = false
  | [], acc, ρ, τ, _, _, _, h, e => by cases h; exact e
  | t :: ts, acc, ρ, τ, _, _, _, h, e => by
    simp only [lcF] at h
    split at h
    · split at h
      · split at h
        · split at h
          · split at h
            · have z := lcF_tau h e
              simp only [Bool.or_eq_false_iff] at z
              exact z.1
            · cases h
          · cases h
        · have z := lcF_tau h e
          simp only [Bool.or_eq_false_iff] at z
          exact z.1
      · cases h
    · cases h

def W0 : WX := fun _ _ _ _ => False
theorem gd_blk {X : Cx} {xi : XI} {N : List Str} {sc : Scope} {lvl : Nat} {cm : Bool} {W : WX} (g : Gd X xi N sc lvl cm W) (s : Shared) (H : Hp) (scope : Scope) (C : Addr) (cl : List (Str × Addr)) (fp : List Addr) :
    Gd (X.blk s H scope (compEnvC scope cl C X.env) fp) xi N (relS scope sc) lvl cm W0 :=
  ⟨g.hN, g.nd, by rw [← g.hsc]; rfl, g.hcm, g.room, g.un, takes0, g.gu⟩
def ownOf (N : List Str) (vs : List Nat) : List (Str × Nat) := vs.map fun i => (N.getD i Str.empty, i)
theorem own_snd (N : List Str) (vs : List Nat) : (ownOf N vs).map (·.2) = vs := by
  unfold ownOf
  rw [List.map_map]
  show vs.map (fun i => i) = vs
  simp
/-- a comprehension's clause: its own slots, target, source, test, element -/
structure Lc where
  vs : List Nat
  tg : Tgt
  it : Ix
  ifs : Option Bx
  el : Ex
def Lc.tt (l : Lc) : Rho → RB := match l.ifs with
  | some b => b.sem
  | none => fun ρ => .ok true ρ false
def Lc.sem (l : Lc) : Rho → R := lcSem l.it.sem l.tg.sem l.tt l.el.sem l.vs
def Lc.m (l : Lc) (N : List Str) (sc : Scope) (cm : Bool) : Expr → Bool
  | .ListComp elt [⟨t, iter, ifs, a⟩] scope _ => decide (a = 0) && (notSet iter && (blkC N sc scope (ownOf N l.vs) && ((l.tg.asg.all fun i => l.vs.contains i) && (l.tg.m N (relS scope sc) true t && (l.it.m N sc cm t iter && (l.el.m N (relS scope sc) cm elt &&
      (cm && (match l.ifs, ifs with
        | none, [] => true
        | some b, [c] => b.m N (relS scope sc) cm c
        | _, _ => false))))))))
  | _ => false
def Lc.pre (l : Lc) (Γ : Gm) (k : Nat) : Prop := l.it.pre Γ k ∧ l.el.pre Γ k ∧ match l.ifs with
  | some b => b.pre Γ k
  | none => True
/-- the parts that HandS's rules ask, and their reading -/
theorem Lc.parts (l : Lc) {X : Cx} {xi : XI} {N : List Str} {sc : Scope} {lvl : Nat} {cm : Bool} {W : WX} {elt t iter : Expr} {ifs : List Expr} {scope : Scope} {pos : Pos} {a : Int} (g : Gd X xi N sc lvl cm W) (p : l.pre (gm X xi) lvl) (h : l.m N sc cm (.ListComp elt [⟨t, iter, ifs, a⟩] scope pos) = true) :
    a = 0 ∧ X.calm = true ∧ notSet iter = true ∧ BlkOk X.N X.env.scope scope (ownOf N l.vs) ∧ ∃ wi gg tt te, PI X t iter wi ∧
      (∀ (s : Shared) (H : Hp) (C : Addr) (cl : List (Str × Addr)) (fp : List Addr), PG (X.blk s H scope (compEnvC scope cl C X.env) fp) t gg) ∧
      (∀ (s : Shared) (H : Hp) (C : Addr) (cl : List (Str × Addr)) (fp : List Addr), PTs (X.blk s H scope (compEnvC scope cl C X.env) fp) ifs tt) ∧
      (∀ (s : Shared) (H : Hp) (C : Addr) (cl : List (Str × Addr)) (fp : List Addr), PE (X.blk s H scope (compEnvC scope cl C X.env) fp) elt te) ∧
      ∀ σ H Q, tE X.K xi W l.sem σ H Q → tLc wi gg tt te ((ownOf N l.vs).map (·.2)) σ H Q := by
  simp only [Lc.m, Bool.and_eq_true, decide_eq_true_eq, List.all_eq_true] at h
  obtain ⟨ha, hns, hblk, hasg, htg, hit, hel, hcm, hif⟩ := h
  have hc := g.hcm hcm
  obtain ⟨wi, hi, ik⟩ := l.it.snd g p.1 hit
  have hok : BlkOk X.N X.env.scope scope (ownOf N l.vs) := by
    rw [g.hN, g.hsc]; exact blkOk_by hblk
  -- the target's rule, once for all blocks
  have tgs := fun (s : Shared) (H : Hp) (C : Addr) (cl : List (Str × Addr)) (fp : List Addr) => l.tg.snd (X := X.blk s H scope (compEnvC scope cl C X.env) fp) (N := N) (sc := relS scope sc) (st := true) (x := t) g.hN g.nd (by rw [← g.hsc]; rfl) hc (fun z => by cases z) htg
  let gg : TG := fun v σ H Q => ∀ (s : Shared) (H' : Hp) (C : Addr) (cl : List (Str × Addr)) (fp : List Addr), (tgs s H' C cl fp).choose v σ H Q
  have hgg : ∀ (s : Shared) (H : Hp) (C : Addr) (cl : List (Str × Addr)) (fp : List Addr), PG (X.blk s H scope (compEnvC scope cl C X.env) fp) t gg := fun s H C cl fp =>
    ⟨fun pins s1 σ H1 v u Q I r q => (tgs s H C cl fp).choose_spec.1.run pins s1 σ H1 v u Q I r (q s H C cl fp)⟩
  have kgg : ∀ (t : T) (v : V) (fo : List Addr) (σ : L2.St) (H : Hp) (ρ ρ' : Rho) (fp : Fp) (Q : L2.St → Hp → Prop), Env X.K ρ fp σ H → Rep X.K H t v fo → fo.Nodup → (∀ a ∈ fo, ¬ In fp a) → l.tg.sem t ρ = some ρ' →
      (∀ σ' fp', Env X.K ρ' fp' σ' H → ((∀ a, In fp' a → In fp a ∨ a ∈ fo) ∧ ∀ i, i ∉ l.tg.asg → fp' i = fp i) → Agree l.tg.asg σ σ' → Q σ' H) → gg v σ H Q := fun t v fo σ H ρ ρ' fp Q e r nd d hs k s H' C cl fp' => (tgs s H' C cl fp').choose_spec.2 t v fo σ H ρ ρ' fp Q e r nd d hs k
  have hpts : ∀ (s : Shared) (H : Hp) (C : Addr) (cl : List (Str × Addr)) (fp : List Addr), PTs (X.blk s H scope (compEnvC scope cl C X.env) fp) ifs (tT X.K xi W0 l.tt) := fun s H C cl fp => by
    obtain ⟨vs, tg, it, lifs, el⟩ := l
    cases lifs with
    | none =>
      cases ifs with
      | cons => cases hif
      | nil =>
        refine ⟨fun pins s1 σ H1 Q I q => pts_nil.run pins s1 σ H1 Q I ?_⟩
        obtain ⟨ρ, fp, e, q⟩ := q
        exact q H1 fp e Step.refl fun _ => Quiet.refl
    | some b =>
      cases ifs with
      | nil => cases hif
      | cons c r =>
        cases r with
        | cons => cases hif
        | nil => exact pts_one (b.snd (gd_blk g s H scope C cl fp) p.2.2 hif)
  refine ⟨ha, hc, hns, hok, wi, gg, tT X.K xi W0 l.tt, tE X.K xi W0 l.el.sem, hi, hgg, hpts, fun s H C cl fp => l.el.snd (gd_blk g s H scope C cl fp) p.2.1 hel, fun σ H Q hq => ?_⟩
  rw [own_snd]
  refine ik σ H _ ?_
  obtain ⟨ρ, fp, e, hq⟩ := hq
  refine ⟨ρ, fp, e, ?_⟩
  simp only [Lc.sem, lcSem] at hq
  cases hs : l.it.sem ρ with
  | stuck => rw [hs] at hq; exact hq
  | ex c t ρ' => rw [hs] at hq; exact hq
  | ok items ρ' τ w =>
    rw [hs] at hq
    simp only at hq
    by_cases hcalm : calmAt ρ' l.vs = true
    case neg => rw [if_neg hcalm] at hq; exact hq.elim
    rw [if_pos hcalm] at hq
    intro J H1 fp1 e1 s1 q1 sv D hD
    have fpe : fpW fp1 l.vs = fp1 := calm_fp e1 hcalm
    have e1w := e1.wiped l.vs
    rw [fpe] at e1w
    cases hl : lcF l.tg.sem l.tt l.el.sem l.vs items [] (wipeR ρ' l.vs) false with
    | stuck => rw [hl] at hq; exact hq.elim
    | ok acc0 ρ0 τ0 =>
      rw [hl] at hq
      simp only at hq
      by_cases hw : w = true ∧ τ0 = true
      case pos => rw [if_pos hw] at hq; exact hq.elim
      rw [if_neg hw] at hq
      -- the invariant
      let I : Nat → Hp → Prop := fun i H2 => i ≤ items.length ∧ ∃ (ρ2 : Rho) (fp2 : Fp) (acc : List T) (accV : List V) (gs : List Addr) (τ2 : Bool), Env X.K ρ2 fp2 (wipe σ l.vs) H2 ∧ H2 D = some (.lst accV) ∧ Reps X.K H2 acc accV gs ∧ (D :: gs).Nodup ∧ (∀ a ∈ D :: gs, ¬ In fp2 a) ∧
        Step fp1 H1 fp2 (D :: gs) H2 ∧ (τ2 = false → ρ2 = wipeR ρ' l.vs ∧ fp2 = fp1 ∧ ∀ a o, H1 a = some o → H2 a = some o) ∧ (∀ j ∈ l.vs, ∀ t, ρ2[j]? ≠ some (some t)) ∧ lcF l.tg.sem l.tt l.el.sem l.vs (items.drop i) acc ρ2 τ2 = .ok acc0 ρ0 τ0
      have kD : ∀ a o, H1 a = some o → upd H1 D (.lst []) a = some o := fun a o z => by rw [upd_ne (ne_of_none z hD)]; exact z
      have nDfp : ¬ In fp1 D := fun z => by
        obtain ⟨xs, z, _⟩ := e1.own D z
        rw [hD] at z; cases z
      have wnone : ∀ (ρ : Rho), ∀ j ∈ l.vs, ∀ t, (wipeR ρ l.vs)[j]? ≠ some (some t) := fun ρ j hj t z => by
        by_cases hlt : j < ρ.length
        · rw [wipeR_in hj hlt] at z; cases z
        · rw [List.getElem?_eq_none (by rw [wipeR_length]; omega)] at z; cases z
      refine ⟨fun i m H2 => m = items.length - i ∧ I i H2, ⟨items.length, rfl, Nat.zero_le _, wipeR ρ' l.vs, fp1, [], [], [], false, e1w.ext kD, upd_same, ⟨rfl, rfl⟩, List.nodup_cons.mpr ⟨fun z => (by cases z), List.nodup_nil⟩, fun a z => ?_, ⟨fun a o z n => kD a o z, fun a z => ?_, List.nodup_cons.mpr ⟨fun z => (by cases z), List.nodup_nil⟩, fun a z => ?_⟩, fun _ => ⟨rfl, rfl, kD⟩, wnone ρ', by simpa using hl⟩, ?_⟩
      · have : a = D := by simpa using z
        subst this; exact nDfp
      · rcases z with z | z
        · exact .inl z
        · have : a = D := by simpa using z
          subst this; exact .inr hD
      · have : a = D := by simpa using z
        subst this; exact nDfp
      rintro i m H2 ⟨rfl, hle, ρ2, fp2, acc, accV, gs, τ2, e2, hD2, racc, ndD, djD, s2, qq, hnone, hlc⟩
      -- w: nothing has changed
      have keepIt : Keep (if w = true then fun _ => False else In fp1) H1 H2 := by
        cases w with
        | false => simpa using s2.keep
        | true =>
          have t0 : τ0 = false := by
            cases τ0 with
            | false => rfl
            | true => exact absurd ⟨rfl, rfl⟩ hw
          have t2 := lcF_tau hlc t0
          exact fun a o z _ => (qq t2).2.2 a o z
      obtain ⟨sgo, sstop⟩ := sv i H2 keepIt
      by_cases hlt : i < items.length
      · have hi' : items[i]? = some items[i] := List.getElem?_eq_getElem hlt
        obtain ⟨go, yl⟩ := sgo _ hi'
        refine .inr ⟨go, fun H3 => I (i + 1) H3, fun H3 z => ⟨items.length - (i + 1), by omega, rfl, z⟩, fun x H3 y => ?_⟩
        obtain ⟨k3, r3⟩ := yl x H3 y
        rw [List.drop_eq_getElem_cons hlt] at hlc
        simp only [lcF] at hlc
        cases ht : l.tg.sem items[i] ρ2 with
        | none => rw [ht] at hlc; cases hlc
        | some ρ3 =>
          rw [ht] at hlc
          simp only at hlc
          obtain ⟨tl, tout⟩ := l.tg.loc ht
          refine kgg _ x [] (wipe σ l.vs) H3 ρ2 ρ3 fp2 _ (e2.ext k3) r3 List.nodup_nil (fun _ z => by cases z) ht fun σ3 fp3 e3 ⟨hin, hfp⟩ ag3 => ?_
          have asgIn : ∀ j, j ∉ l.vs → j ∉ l.tg.asg := fun j hj z => hj (by simpa using hasg j z)
          have ws : wipe σ3 l.vs = wipe σ l.vs := by
            rw [wipe_same (σ := wipe σ l.vs) (by rw [e3.len, tl, ← e2.len]) fun j hj => ag3 j (asgIn j hj), wipe_wipe]
          refine ⟨ws, ρ3, fp3, e3, ?_⟩
          have D3 : H3 D = some (.lst accV) := k3 D _ hD2
          have hin3 : ∀ a, In fp3 a → In fp2 a := fun a z => (hin a z).elim id fun z => by cases z
          have s3 : Step fp2 H2 fp3 [] H3 := ⟨fun a o z n => k3 a o z, fun a z => .inl (z.elim (hin3 a) fun z => by cases z), List.nodup_nil, fun _ z => by cases z⟩
          -- the new rest behind a turn
          have next : ∀ {ρ5 : Rho} {fp5 : Fp} {H5 : Hp} {τ5 : Bool} {acc5 : List T} {accV5 : List V} {gs5 : List Addr}, Env X.K ρ5 fp5 σ3 H5 → H5 D = some (.lst accV5) → Reps X.K H5 acc5 accV5 gs5 → (D :: gs5).Nodup → (∀ a ∈ D :: gs5, ¬ In fp5 a) →
              Step fp1 H1 fp5 (D :: gs5) H5 → (τ5 = false → wipeR ρ5 l.vs = wipeR ρ' l.vs ∧ fpW fp5 l.vs = fp1 ∧ ∀ a o, H1 a = some o → H5 a = some o) → lcF l.tg.sem l.tt l.el.sem l.vs (items.drop (i + 1)) acc5 (wipeR ρ5 l.vs) τ5 = .ok acc0 ρ0 τ0 → I (i + 1) H5 := fun {ρ5 fp5 H5 τ5 acc5 accV5 gs5} e5 d5 ra nd5 dj5 s5 q5 h5 => by
            have e5w := e5.wiped l.vs
            rw [ws] at e5w
            exact ⟨hlt, wipeR ρ5 l.vs, fpW fp5 l.vs, acc5, accV5, gs5, τ5, e5w, d5, ra, nd5, fun a z w => dj5 a z (in_fpW w), ⟨s5.keep, fun a z => s5.sub a (z.imp in_fpW id), s5.nd, fun a z w => s5.dj a z (in_fpW w)⟩, q5, wnone ρ5, h5⟩
          have dj3 : ∀ a ∈ D :: gs, ¬ In fp3 a := fun a z w => djD a z (hin3 a w)
          have r3acc := racc.ext k3
          have s03 : Step fp1 H1 fp3 (D :: gs) H3 := by
            have := s2.trans (fun a z => by
              rcases List.mem_cons.mp z with rfl | z
              · rw [hD2]; exact fun z => by cases z
              · obtain ⟨xs, w, _⟩ := racc.own a z
                rw [w]; exact fun z => by cases z) s3
            simpa using this
          have q3 : τ2 = false → wipeR ρ3 l.vs = wipeR ρ' l.vs ∧ fpW fp3 l.vs = fp1 ∧ ∀ a o, H1 a = some o → H3 a = some o := fun z => by
            obtain ⟨z1, z2, z3⟩ := qq z
            refine ⟨?_, ?_, fun a o w => k3 a o (z3 a o w)⟩
            · rw [wipeR_same tl fun j hj => tout j (asgIn j hj), z1, wipeR_same (wipeR_length _ _) fun j hj => wipeR_out hj]
            · funext j
              by_cases hj : j ∈ l.vs
              · have := congrFun fpe j
                simp only [fpW, if_pos (show l.vs.contains j = true by simpa using hj)] at this ⊢
                exact this
              · simp only [fpW, if_neg (show ¬ l.vs.contains j = true by simpa using hj)]
                rw [hfp j (asgIn j hj), z2]
          have memD : D ∈ D :: gs := List.mem_cons_self
          cases htt : l.tt ρ3 with
          | stuck => rw [htt] at hlc; cases hlc
          | ex c t ρ4 => rw [htt] at hlc; cases hlc
          | ok k ρ4 τ4 =>
            rw [htt] at hlc
            simp only at hlc
            intro H4 fp4 e4 s4 q4
            have D4 : H4 D = some (.lst accV) := s4.keep D _ D3 (dj3 D memD)
            have r4 := Reps.keep s4.keep e3.own (fun a h => dj3 a (List.mem_cons_of_mem _ h)) r3acc
            have own4 : ∀ a ∈ D :: gs, H3 a ≠ none := fun a z => by
              rcases List.mem_cons.mp z with rfl | z
              · rw [D3]; exact fun z => by cases z
              · obtain ⟨xs, w, _⟩ := r3acc.own a z
                rw [w]; exact fun z => by cases z
            have s04 : Step fp1 H1 fp4 (D :: gs) H4 := by simpa using s03.trans own4 s4
            have q04 : (τ2 || τ4) = false → wipeR ρ4 l.vs = wipeR ρ' l.vs ∧ fpW fp4 l.vs = fp1 ∧ ∀ a o, H1 a = some o → H4 a = some o := fun z => by
              simp only [Bool.or_eq_false_iff] at z
              obtain ⟨z1, z2, z3⟩ := q3 z.1
              obtain ⟨rfl, rfl, z6⟩ := q4 z.2
              exact ⟨z1, z2, fun a o w => z6 a o (z3 a o w)⟩
            cases k with
            | false =>
              rw [if_neg Bool.false_ne_true] at hlc ⊢
              exact next e4 D4 r4 ndD s04.dj s04 q04 hlc
            | true =>
              rw [if_pos rfl] at hlc ⊢
              refine ⟨ρ4, fp4, e4, ?_⟩
              cases hel : l.el.sem ρ4 with
              | stuck => rw [hel] at hlc; cases hlc
              | ex c t ρ5 => rw [hel] at hlc; cases hlc
              | ok o ρ5 τ5 =>
                rw [hel] at hlc
                cases o with
                | p i q => cases hlc
                | v y =>
                  simp only at hlc
                  split at hlc
                  case isFalse => cases hlc
                  rename_i hlen
                  intro v H5 fp5 fo5 e5 s5 q5 r5
                  have r5 : Rep X.K H5 y v fo5 := r5
                  have D5 : H5 D = some (.lst accV) := s5.keep D _ D4 (s04.dj D memD)
                  have ra5 := Reps.keep s5.keep e4.own (fun a h => s04.dj a (List.mem_cons_of_mem _ h)) r4
                  have own5 : ∀ a ∈ D :: gs, H4 a ≠ none := fun a z => by
                    rcases List.mem_cons.mp z with rfl | z
                    · rw [D4]; exact fun z => by cases z
                    · obtain ⟨xs, w, _⟩ := r4.own a z
                      rw [w]; exact fun z => by cases z
                  have s05 : Step fp1 H1 fp5 ((D :: gs) ++ fo5) H5 := s04.trans own5 s5
                  have ndAll : ((D :: gs) ++ fo5).Nodup := s05.nd
                  have nD : D ∉ gs ++ fo5 := (List.nodup_cons.mp ndAll).1
                  refine ⟨accV, D5, by rw [racc.len]; exact hlen, ?_⟩
                  have kp : Keep (· = D) H5 (upd H5 D (.lst (accV ++ [v]))) := upd_keep
                  have nDfp5 : ¬ In fp5 D := s05.dj D (by simp)
                  refine next (gs5 := gs ++ fo5) (e5.upd D5 nDfp5) upd_same (Reps.append (Reps.keep kp (lists_one D5) (fun a h z => nD (by rw [← z]; exact List.mem_append_left _ h)) ra5) (Reps.one (Rep.keep kp (lists_one D5) (fun a h z => nD (by rw [← z]; exact List.mem_append_right _ h)) r5))) ndAll s05.dj ⟨fun a o z n => ?_, fun a z => ?_, ndAll, s05.dj⟩ (fun z => ?_) hlc
                  · have : a ≠ D := fun w => by rw [w, hD] at z; cases z
                    rw [upd_ne this]; exact s05.keep a o z n
                  · exact s05.sub a z
                  · simp only [Bool.or_eq_false_iff] at z
                    obtain ⟨z1, z2, z3⟩ := q04 (by simp [z.1, z.2.1])
                    obtain ⟨rfl, rfl, z6⟩ := q5 z.2.2
                    refine ⟨z1, z2, fun a o w => ?_⟩
                    have : a ≠ D := fun q => by rw [q, hD] at w; cases w
                    rw [upd_ne this]; exact z6 a o (z3 a o w)
      · have ei : i = items.length := by omega
        subst ei
        rw [List.drop_length] at hlc
        simp only [lcF] at hlc
        cases hlc
        refine .inl ⟨sstop (Nat.le_refl _), ?_⟩
        refine hq (.ref D) H2 fp2 (D :: gs) (e1.unwiped e2 hcalm s2 hnone) (s1.trans0 s2) (fun z => ?_) ⟨D, accV, gs, rfl, rfl, hD2, racc⟩
        simp only [Bool.or_eq_false_iff] at z
        obtain ⟨rfl, rfl, z3⟩ := q1 z.1
        obtain ⟨rfl, rfl, z4⟩ := qq z.2
        exact ⟨unwipe_wipe _ _, rfl, fun a o w => z4 a o (z3 a o w)⟩
def eLc (l : Lc) : Ex where
  sem := l.sem
  m := l.m
  pre := l.pre
  snd := fun {X xi N sc lvl cm W x} g p h => by
    cases x <;> first | (cases h; done) | skip
    rename_i elt gens scope pos
    rcases gens with _ | ⟨⟨t, iter, ifs, a⟩, _ | ⟨c2, gens⟩⟩
    · cases h
    · obtain ⟨rfl, hc, hns, hok, wi, gg, tt, te, hi, hg, ht, he, w⟩ := l.parts g p h
      exact PE.to (pe_lc hc (by rw [g.hN]; exact g.nd) hi hok hg ht he (folded_of hns)) fun σ H Q hq => w σ H Q hq
    · cases h
/-- name = [..] on one line -/
def sSetLc (i : Nat) (l : Lc) : Sx where
  sem := asgS (gN i).sem l.sem
  asg := [i]
  m := fun N sc cm s => match s with
    | .Assign [.Name y py] (.ListComp elt gens scope pos) spos => decide (N[i]? = some y) && (decide (sc.kind = .function) && (decide (sc.names.lookup y = some .local) && ((py.line == pos.line) && (!(scope.names.any fun (n, k) => n == y && (k == .local || k == .cell)) && l.m N sc cm (.ListComp elt gens scope pos)))))
    | _ => false
  pre := l.pre
  snd := fun {X xi N sc lvl cm W x} g p h => by
    split at h
    · rename_i y py elt gens scope pos spos
      simp only [Bool.and_eq_true, decide_eq_true_eq, Bool.not_eq_true'] at h
      obtain ⟨h1, h2, h3, h4, h5, hm⟩ := h
      rcases gens with _ | ⟨⟨t, iter, ifs, a⟩, _ | ⟨c2, gens⟩⟩
      · cases hm
      · obtain ⟨rfl, hc, hns, hok, wi, gg, tt, te, hi, hg, ht, he, w⟩ := l.parts g.toGd p hm
        refine PS.to (ps_setLc hc (by rw [g.hN]; exact g.nd) (by rw [g.hN]; exact h1) (by rw [g.hsc]; exact h3) (sw_true (by rw [g.hsc]; exact h2) (by rw [g.hsc]; exact h3) h4 h5) hi hok hg ht he (folded_of hns)) fun D σ H hq => ?_
        refine w σ H _ ?_
        obtain ⟨ρ, fp, e, hq⟩ := hq
        refine ⟨ρ, fp, e, ?_⟩
        simp only [asgS] at hq
        cases hs : l.sem ρ with
        | stuck => rw [hs] at hq; exact hq
        | ex c t ρ' => rw [hs] at hq; exact fun d H' fp' e' s' x => hq d σ H' fp' e' s' Agree.refl x
        | ok o ρ' τ =>
          rw [hs] at hq
          cases o with
          | p i q => exact hq.elim
          | v t =>
            simp only at hq
            cases ht : (gN i).sem t ρ' with
            | none => rw [ht] at hq; exact hq.elim
            | some ρ2 =>
              rw [ht] at hq
              intro v H' fp' fo e' s' q' r'
              simp only [gN] at ht
              split at ht
              · rename_i hl
                cases ht
                exact asg_fin hq s' (e'.set i r' s'.nd s'.dj hl) (fun a z => (in_set z).elim .inr .inl) fun j hj => List.getElem?_set_ne (by simpa using Ne.symm (by simpa using hj))
              · cases ht
      · cases hm
    · cases h
end Pv
set_option Elab.async false
set_option linter.all false
set_option maxRecDepth 100000
set_option maxHeartbeats 2000000
/-! Pv part L: defs. -/
namespace Pv
open PySem L2

/-- what the arguments' trees are behind the call -/
def back : List T → Nat → Rho → Rho
  | [], _, _ => []
  | t :: ts, i, ρ => (if t.imm = true then some t else (ρ[i]?).getD none) :: back ts (i + 1) ρ
theorem back_get : ∀ (ts : List T) (ρ : Rho) (i j : Nat), (back ts i ρ)[j]? = (ts[j]?).map fun t => if t.imm = true then some t else (ρ[i + j]?).getD none
  | [], _, _, _ => by simp [back]
  | t :: ts, ρ, i, 0 => by simp [back]
  | t :: ts, ρ, i, j + 1 => by
    simp only [back, List.getElem?_cons_succ]
    rw [back_get ts ρ (i + 1) j, show i + (j + 1) = i + 1 + j by omega]
theorem back_len : ∀ (ts : List T) (ρ : Rho) (i : Nat), (back ts i ρ).length = ts.length
  | [], _, _ => rfl
  | t :: ts, ρ, i => by simp [back, back_len ts ρ (i + 1)]
/-- a parameter whose tree may change keeps its value -/
def calmArgs (asg : List Nat) : Nat → List T → Bool
  | _, [] => true
  | i, t :: ts => (t.imm || !asg.contains i) && calmArgs asg (i + 1) ts
theorem calm_args {asg : List Nat} : ∀ {ts : List T} {i j : Nat} {t : T}, calmArgs asg i ts = true → ts[j]? = some t → t.imm = true ∨ i + j ∉ asg
  | [], i, j, t, _, h => by simp at h
  | a :: ts, i, j, t, c, h => by
    simp only [calmArgs, Bool.and_eq_true, Bool.or_eq_true, Bool.not_eq_true'] at c
    cases j with
    | zero =>
      simp only [List.getElem?_cons_zero, Option.some.injEq] at h
      subst h
      exact c.1.imp id fun z => by simpa using z
    | succ j =>
      have z := calm_args (i := i + 1) (j := j) c.2 (by simpa using h)
      rw [show i + (j + 1) = i + 1 + j by omega]
      exact z
def fnRes (ts : List T) : RS → FR
  | .nx ρ => .ok .non (back ts 0 ρ)
  | .ret t ρ => .ok t (back ts 0 ρ)
  | .ex c t ρ => .ex c t (back ts 0 ρ)
  | _ => .stuck
def fnSem (n : Nat) (b : Bl) : List T → FR := fun ts => if calmArgs b.asg 0 ts = true then fnRes ts (b.sem (ts.map some ++ List.replicate (n - ts.length) none)) else .stuck

section
variable {K : PySem.W.Frag} {xi : XI} {H H' : Hp} {fp fp' : Fp} {ts : List T} {vs : List V} {ρ' : Rho} {σ σ' : L2.St} {n : Nat} {fo : List Addr}
theorem start_env {N : List Str} (e : Env K (ts.map some) fp (vs.map some) H) : Env K (ts.map some ++ List.replicate (N.length - ts.length) none) fp (L2.start N vs) H := by
  have hl : vs.length = ts.length := by have := e.len; simpa using this
  refine ⟨by simp [L2.start, hl], fun i t h => ?_, fun i h => ?_, e.nd, e.dj⟩
  · by_cases c : i < ts.length
    · rw [List.getElem?_append_left (by simpa using c)] at h
      obtain ⟨v, hv, r⟩ := e.rep i t h
      exact ⟨v, by unfold L2.start; rw [List.getElem?_append_left (by simpa [hl] using c)]; exact hv, r⟩
    · rw [List.getElem?_append_right (by simpa using c)] at h
      have := List.mem_of_getElem? h
      have := List.eq_of_mem_replicate this
      cases this
  · refine e.emp i fun t ht => h t ?_
    have c : i < (ts.map some).length := by
      rcases Nat.lt_or_ge i (ts.map some).length with z | z
      · exact z
      · rw [List.getElem?_eq_none z] at ht; cases ht
    rw [List.getElem?_append_left c]
    exact ht
/-- the footprint of the parameters that may change -/
def fpB (ts : List T) (fp : Fp) : Fp := fun j => match ts[j]? with
  | some t => if t.imm = true then [] else fp j
  | none => []
theorem in_fpB {a : Addr} (h : In (fpB ts fp) a) : In fp a := by
  obtain ⟨j, h⟩ := h
  unfold fpB at h
  split at h
  · split at h
    · cases h
    · exact ⟨j, h⟩
  · cases h
theorem back_env {N : List Str} {asg : List Nat} (e : Env K (ts.map some) fp (vs.map some) H) (e' : Env K ρ' fp' σ' H') (s : Step fp H fp' fo H') (ag : Agree asg (L2.start N vs) σ') (c : calmArgs asg 0 ts = true) :
    Env K (back ts 0 ρ') (fpB ts fp') (vs.map some) H' := by
  have hl : vs.length = ts.length := by have := e.len; simpa using this
  refine ⟨by rw [back_len]; simpa using hl, fun j t h => ?_, fun j h => ?_, fun j => ?_, fun i j a h1 h2 => ?_⟩
  · rw [back_get] at h
    cases ht : ts[j]? with
    | none => rw [ht] at h; cases h
    | some t0 =>
      rw [ht] at h
      simp only [Option.map_some, Option.some.injEq, Nat.zero_add] at h
      have hj : j < ts.length := by
        rcases Nat.lt_or_ge j ts.length with z | z
        · exact z
        · rw [List.getElem?_eq_none z] at ht; cases ht
      unfold fpB
      simp only [ht]
      obtain ⟨v, hv, r⟩ := e.rep j t0 (by rw [List.getElem?_map, ht]; rfl)
      by_cases ci : t0.imm = true
      · rw [if_pos ci] at h ⊢
        cases h
        rw [r.imm_nil ci] at r
        exact ⟨v, hv, Rep.keep s.keep e.own (fun _ z => by cases z) r⟩
      · rw [if_neg ci] at h ⊢
        have hr : ρ'[j]? = some (some t) := by
          cases q : ρ'[j]? with
          | none => rw [q] at h; cases h
          | some o => rw [q] at h; exact congrArg some h
        obtain ⟨v', hv', r'⟩ := e'.rep j t hr
        refine ⟨v', ?_, r'⟩
        have na : j ∉ asg := by
          rcases calm_args c ht with z | z
          · exact absurd z ci
          · simpa using z
        rw [← hv', ag j na]
        unfold L2.start
        rw [List.getElem?_append_left (by simpa [hl] using hj)]
  · unfold fpB
    cases ht : ts[j]? with
    | none => rfl
    | some t0 =>
      simp only
      by_cases ci : t0.imm = true
      · rw [if_pos ci]
      · rw [if_neg ci]
        refine e'.emp j fun t q => h t ?_
        rw [back_get, ht, Option.map_some, if_neg ci, Nat.zero_add, q]
        rfl
  · unfold fpB
    split
    · split
      · exact .nil
      · exact e'.nd j
    · exact .nil
  · unfold fpB at h1 h2
    split at h1
    · split at h1
      · cases h1
      · split at h2
        · split at h2
          · cases h2
          · exact e'.dj i j a h1 h2
        · cases h2
    · cases h1
theorem step_fpB (s : Step fp H fp' fo H') : Step fp H (fpB ts fp') fo H' := ⟨s.keep, fun a z => s.sub a (z.imp in_fpB id), s.nd, fun a z w => s.dj a z (in_fpB w)⟩
end

/-- a def, its text st, its body read by b -/
structure DefOk (st : Stmt) (N ps : List Str) (b : Bl) : Prop where
  sc : FnScope N ps (defScope st)
  m : b.m N (defScope st) true (defBody st) = true
theorem ok_def {P : Program} {w : World} {K : PySem.W.Frag} {mg : Str → Option Value} {base : Heap} {xi : XI} {x qual : Str} {st : Stmt} {f : Addr} {fd : FuncData} {N ps : List Str} {k : Nat} {b : Bl} (hx : xi.gd = false) (F : L2.Fun K x qual st f fd) (D : DefOk st N ps b) (p : b.pre ⟨P, w, K, mg, base, xi⟩ k) :
    FnOk P w K mg base (L2.CX P w) (k + 1) f fd ps (spF K xi ps.length (fnSem N.length b)) := by
  refine F.okX D.sc (fun vs H Q E h => ?_) (fun cdv A outer s H vs Q E hr h => ⟨tS K xi (fun cls d _ H => E cls d H) b.asg b.sem, ?_, ?_⟩)
  · obtain ⟨ts, fp, hl, e, _⟩ := h
    have := e.len
    rw [List.length_map, List.length_map] at this
    omega
  · refine b.snd (X := cxOf (L2.CX P w) P w K mg base N qual (defScope st) f cdv A outer s H E) (lvl := k) (cm := true) ⟨⟨rfl, D.sc.nd, rfl, fun _ => rfl, fun _ => hr, ?_, takes_of rfl rfl rfl rfl, fun z => (by rw [hx] at z; cases z)⟩, ?_, passes_of rfl, rfl, rfl⟩ p D.m
    · have := hr.un
      show (A.deeper _).units + 100 < cLine
      omega
    · exact fun y _ => .inl rfl
  · obtain ⟨ts, fp, hl, e, hq⟩ := h
    refine ⟨_, fp, start_env e, ?_⟩
    unfold fnSem at hq
    by_cases c : calmArgs b.asg 0 ts = true
    case neg => rw [if_neg c] at hq; exact hq.elim
    rw [if_pos c] at hq
    cases hs : b.sem (ts.map some ++ List.replicate (N.length - ts.length) none) with
    | stuck => rw [hs] at hq; exact hq.elim
    | bk ρ' => rw [hs] at hq; exact hq.elim
    | ct ρ' => rw [hs] at hq; exact hq.elim
    | nx ρ' =>
      rw [hs] at hq
      exact fun σ' H' fp' e' s' ag => hq .non H' _ [] (back_env e e' s' ag c) (step_fpB s') ⟨rfl, rfl⟩
    | ret t ρ' =>
      rw [hs] at hq
      exact fun v σ' H' fp' fo e' s' ag r => hq v H' _ fo (back_env e e' s' ag c) (step_fpB s') r
    | ex cc t ρ' =>
      rw [hs] at hq
      exact fun d σ' H' fp' e' s' ag x => hq d H' _ (back_env e e' s' ag c) (step_fpB s') x
/-- .. as a promise at a level -/
theorem has_def {P : Program} {w : World} {K : PySem.W.Frag} {mg : Str → Option Value} {base : Heap} {xi : XI} {x : Str} {st : Stmt} {f : Addr} {fd : FuncData} {N ps : List Str} {k : Nat} {b : Bl} (hx : xi.gd = false) (F : L2.Fun K x x st f fd) (B : Binds K fd ps []) (g : mg x = some (.ref f)) (D : DefOk st N ps b) (p : b.pre ⟨P, w, K, mg, base, xi⟩ k) :
    Has ⟨P, w, K, mg, base, xi⟩ (k + 1) ⟨x, ps.length, fnSem N.length b⟩ := ⟨f, fd, ps, g, F.kp, B, ok_def hx F D p⟩
end Pv
set_option Elab.async false
set_option linter.all false
set_option maxRecDepth 100000
set_option maxHeartbeats 2000000
/-! Pv part M: own exceptions: class C(.. ValueError): __init__(self, f): super().__init__('msg'); self.f = f. -/
namespace PySem
namespace OwnX
open PySem.W PySem.Calls PyProof.Rows PySem.HandSPX
def iA (f : Str) (p1 p2 : Pos) : Arguments := { posonlyargs := [], args := [{ arg := "self", annotation := none, pos := p1 }, { arg := f, annotation := none, pos := p2 }], vararg := none, kwonlyargs := [], kw_defaults := [], kwarg := none, defaults := [] }
def iB (f msg : Str) (k : Nat) (a1 a2 a3 a4 a5 a6 q1 q2 q3 q4 : Pos) : List Stmt :=
  [.Expr (.Call (.Attribute (.Call (.Name "super" a1) [] [] a2) "__init__" a3) [.Constant (.str msg) k a4] [] a5) a6, .Assign [.Attribute (.Name "self" q1) f q2] (.Name f q3) q4]
def iS (f : Str) : Scope := { kind := .function, names := [("self", .local), (f, .local), ("__class__", .free), ("super", .globalImplicit)], isGenerator := false, isCoroutine := false, more := [] }
/-- what the written part says of the class at C, and of its __init__, at fI -/
structure Txt (K : Frag) (p : Program) (mg : Str → Option Value) (cn qual f msg : Str) (C fI cc cda : Addr) : Prop where
  gC : mg cn = some (.ref C)
  sup : mg "super" = none
  cls : ∃ nm q N bs bm sn sub ab col dd k0 k1 k2 k3 k5, K.lookup C = some (excClassObj nm q C N bs bm true sn sub ab col dd k0 k1 k2 k3 k5 "ValueError.__new__") ∧ refsVE bm = true
  sa : findIn K (.ref C) "__setattr__" = some (some (.builtin "object.__setattr__"))
  ga : findIn K (.ref C) "__getattribute__" = some (some (.builtin "BaseException.__getattribute__"))
  gg : findIn K (.ref C) "__getattr__" = some none
  noN : findIn K (.ref C) f = some none
  iC : findIn K (.ref C) "__init__" = some (some (.ref fI))
  tC : typeIn K (.ref fI) = some (.type "function")
  kC : keepIn K (.ref C) = true
  exC : subIn K (.ref C) (.type "BaseException") = some true
  tyC : typeIn K (.ref C) = some (.type "type")
  hdC : hasDictIn K C = true
  te : exmOne K (.ref C) (.ref C) = some true
  sub : mroIn K C (.ref C) = some true
  subV : subIn K (.ref C) (.type "ValueError") = some true
  opq : nsIn K cStatics "thirdparty.any" = some none
  hm : ks_superIn K C C "__init__" = some (some (.builtin "ValueError.__init__"))
  htop : (p.main.scope.names.lookup ("super" : Str)).isSome = false
  cell : ∃ cl cld csl, K.lookup cc = some ⟨cl, cld, .cell (some (.ref C)), csl⟩
  code : ∃ ccl cdd vs ccs file tf, K.lookup cda = some ⟨ccl, cdd, .fields vs, ccs⟩ ∧ vs[2]? = some (.str file tf) ∧ ((p.main.file : Str) == file) = true
  fn : ∃ (oc : Value) (od : Option Addr) (doc pm : Value) (an : Option Addr) (ct : Value) (osl : Array (Option Value)) (k : Nat) (p1 p2 a1 a2 a3 a4 a5 a6 q1 q2 q3 q4 : Pos), (a3.endLine == a5.line) = true ∧
    K.lookup fI = some ⟨oc, od, .func (ksFn "__init__" qual (iA f p1 p2) (iB f msg k a1 a2 a3 a4 a5 a6 q1 q2 q3 q4) (iS f) .none .none doc pm an (.ref cda) ct cc), osl⟩ ∧ codeIn K (.ref cda) qual = true
  bnd : ∀ (doc pm : Value) (an : Option Addr) (ct : Value) (k : Nat) (p1 p2 a1 a2 a3 a4 a5 a6 q1 q2 q3 q4 : Pos) (x v : Value),
    bindArgs (ksFn "__init__" qual (iA f p1 p2) (iB f msg k a1 a2 a3 a4 a5 a6 q1 q2 q3 q4) (iS f) .none .none doc pm an (.ref cda) ct cc) ⟨[x, v], []⟩ = pure [(("self" : Str), x), (f, v)]
  f1 : (f == ("self" : Str)) = false
  f2 : (("self" : Str) == f) = false
  f3 : (f == ("__debug__" : Str)) = false
  f4 : (f == ("__class__" : Str)) = false
  f5 : (f == ("super" : Str)) = false
  f6 : (("__class__" : Str) == f) = false
  f7 : (("super" : Str) == f) = false
/-- what __init__ leaves of a fresh exception at x -/
structure InitEnd (h h' : Heap) (x C dx : Addr) (f : Str) (v : Value) : Prop where
  keep : ∀ b o, b ≠ x → h.get? b = some o → h'.get? b = some o
  obj : ∃ t1, h'.get? x = some { cls := .ref C, dict := some dx, data := .fields #[.ref t1, .none, .none, .none, .bool false, .none] }
  dbig : h.objs.size ≤ dx
  dne : dx ≠ x
  ns : h'.Ns1 dx (fun y => if y = f then some v else none)
/-- a made exception -/
structure OwnMade (h h' : Heap) (e C d : Addr) (f : Str) (v : Value) : Prop where
  keep : ∀ b o, h.get? b = some o → h'.get? b = some o
  new : h.objs.size ≤ e
  obj : ∃ oe vs, h'.get? e = some oe ∧ oe.cls = .ref C ∧ oe.dict = some d ∧ oe.data = .fields vs ∧ vs[1]? = some .none
  dbig : h.objs.size ≤ d
  dne : d ≠ e
  ns : h'.Ns1 d (fun y => if y = f then some v else none)
theorem one_size (v : Value) : [v].length ≤ sizeLine := by
  rw [sizeLine_eq]
  exact (by decide : 1 ≤ 16777216)
theorem ve_nodict {bm : List Value} (h : refsVE bm = true) : True := trivial
section
variable {prog : Program} {w : World} {A : Around} {E : Value → Shared → Prop} {R : Result → Shared → Prop} {s : Shared} {K : Frag} {mg : Str → Option Value} {cn qual f msg : Str} {C fI cc cda : Addr}
theorem own_mcall {o c : Expr} {m : Str} {apos pos : Pos} {env : Env} (hl : (apos.endLine == pos.line) = true) (hs : starEach [c] env = [(false, eval c env)]) :
    eval (.Call (.Attribute o m apos) [c] [] pos) env = (do
      let ov ← attributeBase o m env (eval o env)
      standAt apos.atName
      let (f, first) ← holding [ov] (getMethod ov m (do return (← importBound o env).getD true))
      callWith pos f first (backTo pos (starEach [c] env)) []) := by
  rw [arm_eval_Call]
  refine congrArg _ (funext fun ov => congrArg _ (funext fun _ => ?_))
  have hf : methodCallForm ([c].length + ([] : List Keyword).length) (backTo pos (starEach [c] env)) (backToKw pos (keywordEach [] env)) = true := by rw [hs]; rfl
  have e1 : calleeOf (methodCallForm ([c].length + ([] : List Keyword).length) (backTo pos (starEach [c] env)) (backToKw pos (keywordEach [] env))) o env ov m = getMethod ov m (do return (← importBound o env).getD true) := by
    rw [hf] <;> rfl
  have e2 : methodCallPos (methodCallForm ([c].length + ([] : List Keyword).length) (backTo pos (starEach [c] env)) (backToKw pos (keywordEach [] env))) o env apos pos = pure pos := by
    unfold methodCallPos
    exact if_pos (by rw [hl, Bool.or_true])
  unfold methodCall
  rw [e1, e2]
  first
    | rfl
    | simp only [pure_bind]
    | (simp only [pure_bind]; rfl)
/-- ValueError.__init__ bound to e, called -/
theorem call_mw {h : Heap} {g : Array GenState} {d : Drawn} {t : Nat} {os : OsState} {nm q : Str} {N : Addr} {bs bm : List Value} {hdct : Bool} {sn : List Str} {sub : List Value} {ab : Bool} {col : Option Bool} {dd : Option Addr} {k0 k1 k2 k3 k5 : Option Value}
    {u e t0 : Addr} {rest : List Value} {Q : Value → Shared → Prop} {E : Value → Shared → Prop}
    (hC : h.get? C = some (excClassObj nm q C N bs bm hdct sn sub ab col dd k0 k1 k2 k3 k5 "ValueError.__new__")) (he : h.get? e = some (excO C t0)) (hu : h.get? u = some (kxs_mw "ValueError.__init__" e)) (hrest : rest.length ≤ sizeLine)
    (hq : ∀ h' t1, (∀ b o, b ≠ e → h.get? b = some o → h'.get? b = some o) → h'.get? e = some (excO C t1) → Q .none ⟨h', g, d, t, os⟩) :
    wpAny (model prog w) A (call (.ref u) rest) Q E ⟨h, g, d, t, os⟩ := by
  refine wpAny_call (codeAny_of_tree ?_)
  show wpAny _ A.in1 (callAny (.ref u) ⟨rest, []⟩) _ _ _
  simp only [callAny]
  refine wpAny_bind (wpAny_load hu ?_)
  simp only [kxs_mw, show (Value.type "method-wrapper" == Value.type "method" || Value.type "method-wrapper" == Value.type "builtin_function_or_method" || Value.type "method-wrapper" == Value.type "method-wrapper") = true by decide, if_true]
  refine W.KFB.if_so (by decide) ?_
  refine wpAny_bind (check_bound_init F.excBase_ValueError.toExcCallFacts hC he rfl ?_)
  refine wpAny_bind (wpAny_pure (wpAny_pure ?_))
  refine ⟨plainId_quiet F.excBase_ValueError.init.plain _, codeAny_builtin F.excBase_ValueError.initEntry ?_⟩
  exact exc_init_tree (cls := .ref C) (t0 := t0) (dv := none) (c2 := .none) (c3 := .none) (b4 := .bool false) he hrest fun h' k' e' _ => hq h' _ k' e'
theorem own_init (T : Txt K prog mg cn qual f msg C fI cc cda) {x t0 : Addr} {v : Value} (X : K.In s.heap) (hlim : s.heap.NoLimit) (G : s.heap.Ns mainGlobals mg) (Bt : ∃ mb, s.heap.Ns builtinsNs mb ∧ mb "super" = some (.type "super"))
    (hx : s.heap.get? x = some (excO C t0)) (hnx : K.lookup x = none) (hroom : A.depth < recursionLimit)
    (hq : ∀ h' tk dx, InitEnd s.heap h' x C dx f v → R (.ok (.ret .none)) { s with heap := h', toks := tk }) :
    codeAny (model prog w) A (.call (.ref fI) ⟨[.ref x, v], []⟩) R s := by
  obtain ⟨oc, od, doc, pm, an, ct, osl, kk, p1, p2, a1, a2, a3, a4, a5, a6, q1, q2, q3, q4, hline, ho, hcd⟩ := T.fn
  obtain ⟨nm, q, N, bs, bm, sn, sub, ab, col, dd, k0, k1, k2, k3, k5, hC, hbm⟩ := T.cls
  obtain ⟨cl, cld, csl, hcell⟩ := T.cell
  obtain ⟨ccl, cdd, vs, ccs, file, tf, hcode, hvs, hfile⟩ := T.code
  obtain ⟨mb, hB, hbs⟩ := Bt
  have hcl : clsIn K C = some { name := nm, bases := bs, mro := .ref C :: bm, ns := N, qualname := q, hasDict := true, slotNames := sn, subclasses := sub, abstract := ab, collection := col, hasDel := false } := by unfold clsIn; rw [hC] <;> rfl
  have hm := T.hm
  unfold ks_superIn at hm
  rw [hcl] at hm
  have hxC : x ≠ C := fun z => by
    have e := X _ _ hC
    rw [← z, hx] at e
    cases e
  have l1 : (List.lookup f [(f, v), (("self" : Str), Value.ref x)]) = some v := List.lookup_cons_self
  have l2 : (List.lookup ("self" : Str) [(f, v), (("self" : Str), Value.ref x)]) = some (.ref x) := by unfold List.lookup; rw [T.f2]; exact List.lookup_cons_self
  have s1 : (iS f).names.lookup ("self" : Str) = some .local := rfl
  have s2 : (iS f).names.lookup f = some .local := by unfold iS List.lookup; rw [show (f == Str.ofString "self") = false from T.f1]; exact List.lookup_cons_self
  have s3 : (iS f).names.lookup ("__class__" : Str) = some .free := by
    show List.lookup ("__class__" : Str) ([("self", .local), (f, .local), ("__class__", .free), ("super", .globalImplicit)] : List (Str × NameKind)) = _
    rw [List.lookup_cons, show (Str.ofString "__class__" == Str.ofString "self") = false from rfl]
    show List.lookup ("__class__" : Str) ([(f, .local), ("__class__", .free), ("super", .globalImplicit)] : List (Str × NameKind)) = _
    rw [List.lookup_cons, show (Str.ofString "__class__" == f) = false from T.f6]
    rfl
  have s4 : (iS f).names.lookup ("super" : Str) = some .globalImplicit := by
    show List.lookup ("super" : Str) ([("self", .local), (f, .local), ("__class__", .free), ("super", .globalImplicit)] : List (Str × NameKind)) = _
    rw [List.lookup_cons, show (Str.ofString "super" == Str.ofString "self") = false from rfl]
    show List.lookup ("super" : Str) ([(f, .local), ("__class__", .free), ("super", .globalImplicit)] : List (Str × NameKind)) = _
    rw [List.lookup_cons, show (Str.ofString "super" == f) = false from T.f7]
    rfl
  refine ks_codeAny_call_defAt (fd := ksFn "__init__" qual (iA f p1 p2) (iB f msg kk a1 a2 a3 a4 a5 a6 q1 q2 q3 q4) (iS f) .none .none doc pm an (.ref cda) ct cc) (binds := [("self", .ref x), (f, v)]) hroom (X _ _ ho) rfl hlim (codeRec_of X hcd) rfl
    (BindsTo.of_eq (T.bnd doc pm an ct kk p1 p2 a1 a2 a3 a4 a5 a6 q1 q2 q3 q4 (.ref x) v)) (fun y hy => ?_) (fun y hy => ?_) (fun h₁ hn k => ?_) rfl rfl rfl
  · rcases List.mem_cons.mp hy with rfl | hy
    · exact fun z => by cases z
    rcases List.mem_cons.mp hy with rfl | hy
    · exact fun z => by cases z
    rcases List.mem_cons.mp hy with rfl | hy
    · exact fun z => by cases z
    rcases List.mem_cons.mp hy with rfl | hy
    · exact fun z => by cases z
    cases hy
  · rcases List.mem_cons.mp hy with rfl | hy
    · exact s1
    rcases List.mem_cons.mp hy with rfl | hy
    · exact s2
    cases hy
  have X₁ : K.In h₁ := X.keeps k
  have hx₁ := k _ _ hx
  have hD1 : h₁.get? C = _ := X₁ _ _ hC
  generalize henv : (callEnv (ksFn "__init__" qual (iA f p1 p2) (iB f msg kk a1 a2 a3 a4 a5 a6 q1 q2 q3 q4) (iS f) .none .none doc pm an (.ref cda) ct cc) s.heap.objs.size fI) = env
  have hk : env.scope.kind = .function := by rw [← henv]; rfl
  have e1 : env.kindOf "self" = some .local := by rw [← henv]; exact s1
  have e2 : env.kindOf f = some .local := by rw [← henv]; exact s2
  have e3 : env.kindOf "__class__" = some .free := by rw [← henv]; exact s3
  have e4 : env.kindOf "super" = some .globalImplicit := by rw [← henv]; exact s4
  have hL : env.locals = s.heap.objs.size := by rw [← henv]; rfl
  have hn1 : h₁.Ns env.locals (fun y => List.lookup y [(f, v), (("self" : Str), Value.ref x)]) := by rw [hL]; exact hn
  have hgl : env.globals = mainGlobals := by rw [← henv]; rfl
  have hbt : env.builtins = builtinsNs := by rw [← henv]; rfl
  have hcl2 : env.cells.lookup ("__class__" : Str) = some cc := by rw [← henv]; rfl
  have hfu : env.func = some fI := by rw [← henv]; rfl
  have hco : env.code = .ref cda := by rw [← henv]; rfl
  have hLx : env.locals ≠ x := by rw [hL]; exact Nat.ne_of_gt (Heap.lt_size hx)
  have hswap : swapsWith (.Call (.Attribute (.Call (.Name "super" a1) [] [] a2) "__init__" a3) [.Constant (.str msg) kk a4] [] a5) none a6.line env = pure false := rfl
  have hint : interactive env = false := by rw [← henv]; rfl
  obtain ⟨hp, g, dr, tk, os⟩ := s
  refine ks_wpAt_execs_cons (ks_wpAt_Expr_any (ks_wpAt_MethodCall (ks_wpAt_super_base (ar := { arg := "self", annotation := none, pos := p1 }) e4 e3 (by decide) hfu (X₁ _ _ ho) rfl rfl hco (X₁ _ _ hcode) rfl hvs hfile T.htop ?_) (own_mcall hline rfl)) hint hswap)
  refine ks_loadName_global hk e4 (loadGlobal_builtin (by rw [hgl]; exact G.keeps k) T.sup (by rw [hbt]; exact hB.keeps k) hbs ⟨rfl, ?_⟩)
  refine wpAny_loadName_free hk e3 hcl2 ⟨_, X₁ _ _ hcell, rfl⟩ ?_
  refine wpAny_loadName_local hk e1 hn1 l2 ?_
  refine ks_wpAny_isType_cls hD1 rfl ⟨rfl, ?_⟩
  refine ks_wpAny_call_super hD1 rfl hx₁ rfl (fun c e => by cases e) (looks_mroIn X₁ T.sub) (fun h' e k' => ?_)
  have X' : K.In h' := X₁.keeps k'
  have I' : InstAt h' x (excO C t0) C none := ⟨k' _ _ hx₁, rfl, rfl, trivial⟩
  refine kxs_getMethod kxs_ValueError e (looks_opaque X' T.opq) (l₀ := .ref C :: bm) ?_ rfl X' hm (I'.type.andThen (looks_subIn X' T.subV)) hxC rfl ?_
  · exact fun A Q E s k q => wpAny_bind ((looks_clsIn X' hcl) A _ E s k (wpAny_pure q))
  refine kxs_callWith (i := "ValueError.__init__") (x := x) rfl ?_
  show wpAny _ _ (evalArgs (.ref h'.objs.size) true ((false, eval (.Constant (.str msg) kk a4) env) :: []) []) _ _ _
  refine evalArgs_plain (spliced_cons (Constant_str (spliced_nil ⟨Heap.get?_push_at rfl rfl, ?_⟩)))
  have up : ∀ b o, h₁.get? b = some o → (h'.push (kxs_mw "ValueError.__init__" x)).get? b = some o := fun b o z => Heap.get?_push_of_some _ (k' b o z)
  refine call_mw (up _ _ hD1) (up _ _ hx₁) (Heap.get?_push_at rfl rfl) (one_size _) (fun h2 t1 k2 e2' => ?_)
  have kk2 : ∀ b o, b ≠ x → hp.get? b = some o → h2.get? b = some o := fun b o hb z => k2 b o hb (up b o (k b o z))
  have X2 : K.In h2 := fun a o z => kk2 a o (fun y => by rw [y, hnx] at z; cases z) (X a o z)
  have hn2 : h2.Ns env.locals (fun y => List.lookup y [(f, v), (("self" : Str), Value.ref x)]) := by
    obtain ⟨oL, es, ep, hL', r⟩ := hn1
    exact ⟨oL, es, ep, k2 _ _ hLx (up _ _ hL'), r⟩
  show wpAt _ _ _ (execs [_] env) _ _ _
  refine wpAt_of_wpAny (wpAny_execs_cons (plainObj_wpAny_Assign_Attribute ?_))
  refine wpAny_Name (wpAny_loadName_local hk e2 hn2 l1 ?_) T.f3
  refine wpAny_Name (wpAny_loadName_local hk e1 hn2 l2 ?_) (by decide)
  refine set_plain X2 (ox := excO C t1) (od := none) ⟨e2', rfl, rfl, trivial⟩ T.sa ?_
  refine exc_osa X2 e2' hcl (show refsVE (.ref C :: bm) = true from hbm) rfl T.noN (fun h₃ tk₃ dx k₃ dn dne hx₃ hn₃ => ?_)
  show wpAny _ _ (execs [] _) _ _ _
  refine wpAny_execs_nil (hq h₃ tk₃ dx ⟨fun b o hb z => k₃ b o hb (kk2 b o hb z), ⟨t1, hx₃⟩, ?_, dne, hn₃⟩)
  have z : hp.objs.size < h2.objs.size := by
    have := hn2.lt
    rw [hL] at this
    exact this
  exact Nat.le_of_lt (Nat.lt_of_lt_of_le z dn)
theorem own_made (T : Txt K prog mg cn qual f msg C fI cc cda) {v : Value} (X : K.In s.heap) (hlim : s.heap.NoLimit) (G : s.heap.Ns mainGlobals mg) (Bt : ∃ mb, s.heap.Ns builtinsNs mb ∧ mb "super" = some (.type "super")) (hroom : A.depth + 1 < recursionLimit)
    (hq : ∀ h' tk e d, OwnMade s.heap h' e C d f v → R (.ok (.ret (.ref e))) { s with heap := h', toks := tk }) :
    codeAny (model prog w) A (.call (.ref C) ⟨[v], []⟩) R s := by
  obtain ⟨nm, q, N, bs, bm, sn, sub, ab, col, dd, k0, k1, k2, k3, k5, hC, hbm⟩ := T.cls
  obtain ⟨hp, g, dr, tk, os⟩ := s
  have k : ∀ b o, hp.get? b = some o → ((hp.push (kdv_tup [v])).push (excO C hp.objs.size)).get? b = some o := fun b o e => Heap.get?_push_of_some _ (Heap.get?_push_of_some _ e)
  have hget : ((hp.push (kdv_tup [v])).push (excO C hp.objs.size)).get? (hp.objs.size + 1) = some (excO C hp.objs.size) := by heap_get
  have hnx : K.lookup (hp.objs.size + 1) = none := by
    cases e : K.lookup (hp.objs.size + 1) with
    | none => rfl
    | some o =>
      have z : hp.get? (hp.objs.size + 1) = some o := X _ _ e
      exact absurd (Nat.lt_of_succ_lt (Heap.lt_size z)) (Nat.lt_irrefl _)
  obtain ⟨mb, B1, B2⟩ := Bt
  refine call_own F.excBase_ValueError (fun X => refsVE_contains X bm hbm) (X _ _ hC) (looks_findIn X T.iC) (fun self => bind_fn X self T.tC) (one_size v) ?_
  refine own_init (s := ⟨(hp.push (kdv_tup [v])).push (excO C hp.objs.size), g, dr, tk, os⟩) T (X.keeps k) (hlim.keeps k) (G.keeps k) ⟨mb, B1.keeps k, B2⟩ hget hnx ?_ fun h' tk' dx ⟨k', ⟨t1, hx⟩, dn, dne, hns⟩ => ?_
  · show A.depth + 1 < recursionLimit
    exact hroom
  · have old : ∀ b o, hp.get? b = some o → h'.get? b = some o := fun b o e => k' b o (Nat.ne_of_lt (Nat.lt_succ_of_lt (Heap.lt_size e))) (k b o e)
    have z : hp.objs.size + 1 + 1 ≤ dx := by
      first
        | (simpa only [Heap.size_push] using dn)
        | exact dn
        | (have q := dn; rw [Heap.size_push, Heap.size_push] at q; exact q)
    exact ⟨rfl, hq h' tk' (hp.objs.size + 1) dx ⟨old, Nat.le_succ _, ⟨_, _, hx, rfl, rfl, rfl, rfl⟩, Nat.le_trans (Nat.le_trans (Nat.le_succ _) (Nat.le_succ _)) z, dne, hns⟩⟩
end
end OwnX
end PySem

namespace L2
open PySem PySem.Spec PyProof.Rows
theorem relO_own {v : V} {v' : Value} {w : Str} (r : RelV v v') (f : Str) : RelO (List.lookup f [(w, v)]) (if f = w then some v' else none) := by
  by_cases hw : f = w
  · subst hw
    rw [if_pos rfl, List.lookup_cons_self]
    exact r
  · rw [if_neg hw]
    have qw : (f == w) = false := by simpa using hw
    have q2 : List.lookup f [(w, v)] = none := by simp [List.lookup, qw]
    rw [q2]
    trivial
section
variable {X : Cx} {cn qual f msg : Str} {C fI cc cda : Addr}
/-- cn(e) -/
def tMkOwn (C : Addr) (f : Str) (ta : TA) : St → Hp → XK → Prop := fun σ H Q => ta σ H fun vs H1 => ∃ v, vs = [v] ∧ ∀ d, H1 d = none → Q (.ref C) (some d) (upd H1 d (.xd [(f, v)]))
theorem pmk_own1 {a : Expr} {ta : TA} {p pos : Pos} {k : Nat} (T : PySem.OwnX.Txt X.K X.prog X.mg cn qual f msg C fI cc cda) (hr : Room k X.A) (ha : PA X [a] ta) (hg : Gl X cn) (hdb : (cn == ("__debug__" : Str)) = false)
    (he : starEach (a :: []) X.env = (false, eval a X.env) :: starEach [] X.env) (hpl : (backTo pos (starEach [] X.env)).any (·.1) = false := by rfl) :
    PMk X (.Call (.Name cn p) [a] [] pos) (tMkOwn C f ta) := by
  intro pins s σ H Q I h
  refine wpAny_Call_Name_kw (ld_glob I hg T.gC ?_ hdb)
  refine PySem.W.callWith_K (h₀ := X.base) I.ok.mod.kin T.kC (thn (ha.run pos pins s σ H _ I h) fun us s1 hh => ?_) he hpl
  obtain ⟨vs, H1, I1, r1, v, ev, q1⟩ := hh
  subst ev
  refine ⟨I1.kIn, ?_⟩
  cases r1 with
  | cons rv rn =>
    rename_i v' us'
    cases rn
    show wpAny _ _ (call (.ref C) [v']) _ _ _
    have hlim := I1.nolimit
    have G := I1.mod.glob.keeps I1.bk
    obtain ⟨mb, b1, b2⟩ := I1.mod.blt
    have Bt : ∃ mb, s1.heap.Ns builtinsNs mb ∧ mb "super" = some (.type "super") := ⟨mb, b1.keeps I1.bk, (b2 _ (by decide)).trans (by first | rfl | boot_by_name | kernel_rfl)⟩
    obtain ⟨hp, g, dr, tk, os⟩ := s1
    refine wpAny_call (PySem.OwnX.own_made T I1.kIn hlim G Bt (by have := hr.dp; omega) fun h' tk' e d M => ?_)
    show MkP X pins σ Q (.ref e) ⟨h', g, dr, tk', os⟩
    obtain ⟨oe, fv, hoe, hc, hd, hdat, h1⟩ := M.obj
    have hns := M.ns
    obtain ⟨G', g1, g2⟩ := restrict h' fun b => decide (b ≠ e)
    have gk : ∀ b, b ≠ e → G'.get? b = h'.get? b := fun b hb => g1 b (decide_eq_true hb)
    have ge : G'.get? e = none := g2 e (by simp)
    have old : ∀ b o, hp.get? b = some o → G'.get? b = some o := fun b o q => (gk b (Nat.ne_of_lt (Nat.lt_of_lt_of_le (Heap.lt_size q) M.new))).trans (M.keep b o q)
    have ob : ObjOk X.prog X.w (upd H1 d (.xd [(f, v)])) G' d (.xd [(f, v)]) :=
      ⟨_, hns.at (fun o q => (gk d M.dne).trans q), fun f => relO_own rv f⟩
    have J : Inv X pins σ (upd H1 d (.xd [(f, v)])) ⟨G', g, dr, tk', os⟩ := I1.laid (t' := tk') old M.dbig ob
    refine ⟨e, oe, fv, ⟨G', g, dr, tk', os⟩, _, .ref C, some d, rfl, J, fun b o q => ?_, ge, hoe, ⟨hc, hd⟩, hdat, h1, ?_, rfl, I1.bare, raises_own T.exC T.tyC, q1 d (I1.hok.fresh M.dbig)⟩
    · by_cases hb : b = e
      · have q' : G'.get? b = some o := q
        rw [hb, ge] at q'; cases q'
      · exact (gk b hb).symm.trans q
    · rw [upd_ne (Ne.symm M.dne)]
      exact I1.hok.fresh M.new
end
end L2
namespace Pv
open PySem L2
/-- the own error class c stands -/
def XOk (Γ : Gm) (c : Nat) (cn : Str) : Prop := ∃ qual f msg fI cc cda, PySem.OwnX.Txt Γ.K Γ.P Γ.mg cn qual f msg (Γ.xi.xc c) fI cc cda ∧ Γ.xi.xf c = f
def raiseS (c : Nat) (a : Rho → R) : Rho → RS := fun ρ => match a ρ with
  | .ok (.v t) ρ' _ => if t.imm = true then .ex c t ρ' else .stuck
  | .ok _ _ _ => .stuck
  | .ex c t ρ' => .ex c t ρ'
  | .stuck => .stuck
/-- raise C(e) -/
def sRaise (c : Nat) (cn : Str) (a : Ex) : Sx where
  sem := raiseS c a.sem
  asg := []
  m := fun N sc cm s => match s with
    | .Raise (some (.Call (.Name x _) [e] [] _)) none _ => cm && (decide (x = cn) && (glB sc x && (notStar e && a.m N sc cm e)))
    | _ => false
  pre := fun Γ k => XOk Γ c cn ∧ a.pre Γ k
  snd := fun {X xi N sc lvl cm W x} g p h => by
    split at h
    · simp only [Bool.and_eq_true, decide_eq_true_eq] at h
      obtain ⟨hc, rfl, h1, h2, h3⟩ := h
      obtain ⟨⟨qual, f, msg, fI, cc, cda, T, hf⟩, pa⟩ := p
      have G := gl_of g.hsc h1
      refine PS.to (ps_raise (g.hcm hc) g.tk (pmk_own1 T (g.room hc) (pa_cons (a.snd g.toGd pa h3) pa_nil (starEach_of h2)) G.gl G.db (starEach_of h2))) fun D σ H hq => ?_
      obtain ⟨ρ, fp, e, hq⟩ := hq
      refine ⟨ρ, fp, e, ?_⟩
      simp only [raiseS] at hq
      cases hs : a.sem ρ with
      | stuck => rw [hs] at hq; exact hq.elim
      | ex c t ρ' => rw [hs] at hq; exact fun d H' fp' e' s' x => hq d σ H' fp' e' s' Agree.refl x
      | ok o ρ' τ =>
        rw [hs] at hq
        cases o with
        | p i q => exact hq.elim
        | v t =>
          simp only at hq
          by_cases c : t.imm = true
          case neg => rw [if_neg c] at hq; exact hq.elim
          rw [if_pos c] at hq
          intro v H' fp' fo e' s' q' r'
          have r' : Rep X.K H' t v fo := r'
          have z := r'.imm_nil c
          subst z
          refine ⟨v, rfl, fun d hd => ?_⟩
          have k : ∀ a o, H' a = some o → upd H' d (.xd [(f, v)]) a = some o := fun a o z => by rw [upd_ne (ne_of_none z hd)]; exact z
          refine hq d σ _ fp' (e'.ext k) (s'.trans0 (Step.ext k)) Agree.refl ⟨_, v, upd_same, ?_, r'.ext k, c⟩
          subst hf
          exact List.lookup_cons_self
    · cases h
end Pv
set_option Elab.async false
set_option linter.all false
set_option maxRecDepth 100000
set_option maxHeartbeats 2000000
/-! Pv part N: try .. except C as e: return e.f op b. -/
namespace Pv
open PySem L2

theorem Env.unset {K : PySem.W.Frag} {ρ : Rho} {fp : Fp} {σ : L2.St} {H : Hp} (e : Env K ρ fp σ H) (i : Nat) (x : Option V) : Env K (ρ.set i none) (fun j => if j = i then [] else fp j) (σ.set i x) H := by
  have z := e.empty i
  refine ⟨by simp [e.len], fun j t h => ?_, z.emp, z.nd, z.dj⟩
  obtain ⟨v, hv, r⟩ := z.rep j t h
  refine ⟨v, ?_, r⟩
  by_cases c : j = i
  · subst c
    by_cases hl : j < ρ.length
    · rw [List.getElem?_set_self hl] at h; cases h
    · rw [List.getElem?_eq_none (by simpa using hl)] at h; cases h
  · rw [List.getElem?_set_ne (Ne.symm c)]; exact hv
theorem Step.pure {K : PySem.W.Frag} {ρ2 : Rho} {σ : L2.St} {fp fp2 : Fp} {H H2 H3 : Hp} {fo2 fo3 : List Addr} (s : Step fp H fp2 fo2 H2) (e2 : Env K ρ2 fp2 σ H2) (k : ∀ a o, H2 a = some o → H3 a = some o) (sub : ∀ a ∈ fo3, a ∈ fo2 ∨ H2 a = none) (nd : fo3.Nodup) :
    Step fp H fp2 fo3 H3 := by
  refine ⟨fun a o z n => k a o (s.keep a o z n), fun a z => ?_, nd, fun a z w => ?_⟩
  · rcases z with z | z
    · exact s.sub a (.inl z)
    · rcases sub a z with z | z
      · exact s.sub a (.inr z)
      · exact s.back z
  · rcases sub a z with z | z
    · exact s.dj a z w
    · obtain ⟨xs, e, _⟩ := e2.own a w
      rw [e] at z; cases z
/-- try: body / except C as e: return e.f op b -/
def tryRetS (c i : Nat) (op : CmpOp) (body : Rho → RS) (b : Rho → R) : Rho → RS := fun ρ => match body ρ with
  | .ex c' t ρ' => if c' = c ∧ i < ρ'.length then (match b (ρ'.set i none) with
      | .ok o ρ2 τ => match f2 (cmpV op) ρ2 [.v t, o] with
        | some r => .ret r ρ2
        | none => .stuck
      | _ => .stuck) else .stuck
  | r => r
def sTryRet (c : Nat) (cn : Str) (i : Nat) (f : Str) (op : CmpOp) (body : Bl) (b : Ex) : Sx where
  sem := tryRetS c i op body.sem b.sem
  asg := i :: body.asg
  m := fun N sc cm s => match s with
    | .Try bd [.ExceptHandler (some (.Name x _)) (some n) [.Return (some (.Compare (.Attribute (.Name n2 p1) fld p2) [o] [y] p3)) p4] _] [] [] _ =>
      cm && (decide (x = cn) && (glB sc x && (decide (N[i]? = some n) && (decide (sc.names.lookup n = some .local) && (nmB N sc i n2 && (decide (fld = f) && (decide (o = op) && (notSet y && (body.m N sc true bd && b.m N sc false y)))))))))
    | _ => false
  pre := fun Γ k => XOk Γ c cn ∧ Γ.xi.xf c = f ∧ body.pre Γ k ∧ b.pre Γ k
  snd := fun {X xi N sc lvl cm W x} g p h => by
    split at h
    · rename_i bd x _ n n2 p1 fld p2 o y p3 p4 _ _
      simp only [Bool.and_eq_true, decide_eq_true_eq] at h
      obtain ⟨hc, rfl, h1, h2, h3, h4, rfl, rfl, h5, h6, h7⟩ := h
      obtain ⟨⟨qual, f', msg, fI, cc, cda, T, hf'⟩, hf, pb, pe⟩ := p
      have : f' = fld := hf'.symm.trans hf
      subst this
      have G := gl_of g.hsc h1
      have hcalm := g.hcm hc
      have hr : Room lvl X.A := g.room hc
      let rq := fun (a : Addr) (pn : List (Addr × Obj)) => op_cmp (X := X.suite a pn) g.un o
      let ts : Addr → Value → Option Addr → TS := fun a cls d D σ H => ∀ pn, tRet (tOp (rq a pn).choose (tXf a cls d (xi.xc c) f' (tVar i)) (tE X.K xi W0 b.sem)) D σ H
      have XT : XfC X.K (xi.xc c) := ⟨T.ga, T.gg, T.exC, T.hdC⟩
      refine PS.to (ps_try_as (c := .ref (xi.xc c)) (i := i) (Wout := W) (tb := fun W' => tS X.K xi W' body.asg body.sem) (ts := ts) g.hst g.hfr (by rw [g.hN]; exact g.nd) (by rw [g.hN]; exact h2) (by show X.env.scope.names.lookup n = _; rw [g.hsc]; exact h3)
        ⟨G.gl, G.db, .inl T.gC⟩ g.tk (fun W' pn xe tk po => ?_) (fun a oe cls d pn hz hfl => ?_)) fun D σ H hq => ?_
      · exact body.snd (X := X.tr pn xe) (sc := sc) (cm := true) (W := W') ⟨⟨g.hN, g.nd, g.hsc, fun _ => hcalm, fun _ => hr, g.un, tk, g.gu⟩, g.fnok, po, g.hst, g.hfr⟩ pb h6
      · have gd : Gd (X.suite a ((a, oe) :: pn)) xi N sc lvl false W0 := ⟨g.hN, g.nd, g.hsc, fun z => (by cases z), fun z => (by cases z), g.un, takes0, g.gu⟩
        refine pss_one (PS.to (ps_ret (pe_cmpR (rq a ((a, oe) :: pn)).choose_spec.1 (pe_xf XT T.noN hz hfl (nm_of (X := X.suite a ((a, oe) :: pn)) g.hN g.hsc h4)) (b.snd gd pe h7) (bim_of h5))) fun D σ H q => q _)
      · obtain ⟨ρ, fp, e, hq⟩ := hq
        refine ⟨ρ, fp, e, ?_⟩
        simp only [tryRetS] at hq
        cases hs : body.sem ρ with
        | stuck => rw [hs] at hq; exact hq.elim
        | nx ρ1 => rw [hs] at hq; exact postS.less (asg' := i :: body.asg) (fun j z => List.mem_cons_of_mem _ z) hq
        | ret t ρ1 => rw [hs] at hq; exact postS.less (asg' := i :: body.asg) (fun j z => List.mem_cons_of_mem _ z) hq
        | bk ρ1 => rw [hs] at hq; exact postS.less (asg' := i :: body.asg) (fun j z => List.mem_cons_of_mem _ z) hq
        | ct ρ1 => rw [hs] at hq; exact postS.less (asg' := i :: body.asg) (fun j z => List.mem_cons_of_mem _ z) hq
        | ex c' t ρ' =>
          rw [hs] at hq
          simp only at hq
          by_cases cq : c' = c ∧ i < ρ'.length
          case neg => rw [if_neg cq] at hq; exact hq.elim
          rw [if_pos cq] at hq
          obtain ⟨rfl, hi0⟩ := cq
          intro d σ1 H1 fp1 e1 s1 ag1 xr
          refine ⟨true, T.te, fun _ a ha pn => ?_, fun z => by cases z⟩
          obtain ⟨fs, w, hd, hl, rw', him⟩ := xr
          have hi : i < σ1.length := by rw [e1.len]; exact hi0
          refine ⟨.ref a, List.getElem?_set_self hi, rfl, rfl, d, fs, w, rfl, hd, by rw [← hf]; exact hl, ?_⟩
          refine ⟨ρ'.set i none, _, e1.unset i _, ?_⟩
          cases hb : b.sem (ρ'.set i none) with
          | stuck => rw [hb] at hq; exact hq.elim
          | ex c2 t2 ρ2 => rw [hb] at hq; exact hq.elim
          | ok o2 ρ2 τ2 =>
            rw [hb] at hq
            simp only at hq
            cases hv : f2 (cmpV o) ρ2 [.v t, o2] with
            | none => rw [hv] at hq; exact hq.elim
            | some r =>
              rw [hv] at hq
              intro v2 H2 fp2 fo2 e2 s2 q2 r2
              have rw2 : Rep X.K H2 t w [] := Rep.keep s2.keep (e1.unset i none).own (fun _ z => by cases z) rw'
              refine (rq a pn).choose_spec.2 ρ2 fp2 _ H2 [.v t, o2] [w, v2] fo2 r e2 ⟨w, [v2], [], fo2, rfl, by simp, rw2, v2, [], fo2, [], rfl, by simp, r2, rfl, rfl⟩ s2.nd hv _ fun v3 H3 fo3 k3 r3 sub3 nd3 => ?_
              have su : Step fp1 H1 (fun j => if j = i then [] else fp1 j) [] H1 := ⟨fun a o z _ => z, fun a z => .inl (z.elim (fun z => by obtain ⟨j, _, q⟩ := in_empty z; exact ⟨j, q⟩) fun z => by cases z), .nil, fun _ z => by cases z⟩
              refine hq v3 _ H3 fp2 fo3 (e2.ext k3) (((s1.trans0 su).trans0 s2).pure e2 k3 sub3 nd3) (fun j hj => ?_) r3
              have hj' : j ≠ i ∧ j ∉ body.asg := by simpa using hj
              rw [List.getElem?_set_ne (Ne.symm hj'.1)]
              exact ag1 j hj'.2
    · cases h
end Pv
set_option Elab.async false
set_option linter.all false
set_option maxRecDepth 100000
set_option maxHeartbeats 4000000
/-! Pv part O: str(int) and int(text) up to 4300 digits, isinstance. -/
namespace PySem.W
open PySem PySem.Calls PySem.NumText PyProof.Rows
namespace KIN
theorem wp_most {M : Model} {A : Around} {E : Value → Shared → Prop} {s : Shared} {Q : Nat → Shared → Prop} (hd : s.heap.NoDigits) (h : Q 4300 s) : wpAny M A Builtin.intMaxStrDigits Q E s := by
  obtain ⟨mc, hns, hnone⟩ := hd
  unfold Builtin.intMaxStrDigits
  refine wpAny_bind (wpAny_nsGet hns ?_)
  rw [hnone]
  exact wpAny_pure h
theorem wp_textN {M : Model} {A : Around} {E : Value → Shared → Prop} {s : Shared} {Q : Value → Shared → Prop} {v : Value} {text : List Nat} {n : Int} (hd : s.heap.NoDigits)
    (hs : ¬ (text.takeWhile (· != 0)).length ≤ 640) (hr : (int_private% "readNumeral") 4300 10 (text.takeWhile (· != 0)) = (int_private% "Numeral.value") n)
    (ha : ((text.takeWhile (· != 0)).length == text.length) = true) (h : Q (.int n s.toks) { s with toks := s.toks + 1 }) :
    wpAny M A ((int_private% "intFromText") v text 10) Q E s := by
  obtain ⟨hp, g, d, tk, os⟩ := s
  repeat (any_goals (first
    | assumption
    | (with_reducible refine wp_most hd ?_)
    | (with_reducible refine wpAny_ite_false (decide_eq_false hs) ?_)
    | (with_reducible refine wpAny_ite_true (decide_eq_true ha) ?_)
    | wp_step))
  all_goals (try rw [hr])
  all_goals (try dsimp only)
  repeat (any_goals (first
    | assumption
    | (with_reducible refine wpAny_ite_true (decide_eq_true ha) ?_)
    | wp_step))
set_option maxHeartbeats 8000000 in
theorem meets_textN {x : PySem.Str} {u : Tok} {n : Int} (hz : x.length ≤ sizeLine) (hl : ¬ (numSeenOf x).length ≤ 640) (hn : PySem.intText? x = some n) :
    Meets (Builtin.«int.__new__» ⟨[.type "int", .str x u], []⟩) (fun _ R s => s.heap.NoDigits ∧ R (.ok (.ret (.int n s.toks))) { s with toks := s.toks + 1 }) :=
  Meets.of_wp fun prog w A R s h => by
    obtain ⟨hp, g, d, tk, os⟩ := s
    obtain ⟨hd, h⟩ := h
    have f1 := F.conv_sub_int
    have f2 := F.madeHere_int
    have f3 := str_int
    have f4 := str_idx
    have f5 := str_trunc
    have f6 : typeOf (.str x u) = pure (.type "str") := rfl
    have hr : (int_private% "readNumeral") 4300 10 (numSeenOf x) = (int_private% "Numeral.value") n ∧ ((numSeenOf x).length == (numTextOf x).length) = true := by
      rcases read4300 x hz with ⟨m, h1, h2, h3⟩ | ⟨h1, _⟩
      · rw [hn] at h1
        injection h1 with h1
        subst h1
        exact ⟨h3, h2⟩
      · rw [hn] at h1
        cases h1
    have hk := Hid.mk (And.intro hl (And.intro hr hd))
    clear hl hr hn hz hd
    repeat (any_goals (first
      | assumption
      | ((with_reducible show wpAny _ _ ((int_private% "intFromText") _ _ _) _ _ _); refine wp_textN hk.out.2.2 hk.out.1 hk.out.2.1.1 hk.out.2.1.2 ?_)
      | wp_step))
    all_goals first | exact ⟨_, rfl, h⟩ | skip
end KIN
end PySem.W
namespace Pv
open PySem L2 PyProof.Rows

/-- the digit limit stands as built in -/
def NoDig (K : PySem.W.Frag) : Prop := PySem.W.nsIn K cStatics "sys.int_max_str_digits" = some none
theorem ns_none_of {K : PySem.W.Frag} {h : Heap} {m : Str → Option Value} {n : Str} {a : Addr} (X : K.In h) (G : h.Ns a m) (e : PySem.W.nsIn K a n = some none) : m n = none := by
  obtain ⟨o, es, ep, ho, hd, _, hf⟩ := G
  unfold PySem.W.nsIn at e
  split at e
  · rename_i c d es' n' sl q
    have := X _ _ q
    rw [ho] at this
    cases this
    cases hd
    split at e
    · cases e
    · rename_i he
      rw [← hf]
      unfold nsFind findBy
      rw [← Array.find?_toList, he]
      rfl
  · cases e
theorem noDigits_of {X : Cx} {pins : List (Addr × Obj)} {σ : L2.St} {H : Hp} {s : Shared} (I : Inv X pins σ H s) (n : NoDig X.K) : s.heap.NoDigits := by
  obtain ⟨mc, h1, _⟩ := I.nolimit
  exact ⟨mc, h1, ns_none_of I.kIn h1 n⟩
def strOfT : T → Option T
  | .int i => if i.natAbs < 10 ^ 4300 then some (.str (toString i)) else none
  | _ => none
def rStrN : List V → Hp → VK → Prop := fun xs H Q => ∃ i : Int, xs = [.int i] ∧ i.natAbs < 10 ^ 4300 ∧ Q (.str (toString i)) H
theorem call_strN {X : Cx} (hc : X.calm = true) (n : NoDig X.K) : CallR X (.type "str") rStrN := by
  intro pins s σ H xs us Q I r h
  obtain ⟨i, rfl, hz, q⟩ := h
  obtain ⟨u, rfl, t, rfl⟩ := vals1 r
  exact str_of_int_or (I.ok.hd hc) (noDigits_of I n) (fun _ => ⟨.str _, H, I.tok _, ⟨_, rfl⟩, q⟩) (fun z => absurd hz (Nat.not_lt.mpr z))
def intOfT : T → Option T
  | .int i => some (.int i)
  | .str x => if x.length ≤ 4300 ∧ (x.length ≤ 640 ∨ ¬ (numSeenOf x).length ≤ 640) then (match PySem.intText? x with
    | some n => some (.int n)
    | none => none) else none
  | _ => none
def rIntN : List V → Hp → VK → Prop := fun xs H Q => (∃ i, xs = [.int i] ∧ Q (.int i) H) ∨ ∃ a m, xs = [.str a] ∧ a.length ≤ 4300 ∧ (a.length ≤ 640 ∨ ¬ (numSeenOf a).length ≤ 640) ∧ PySem.intText? a = some m ∧ Q (.int m) H
theorem call_intN {X : Cx} (n : NoDig X.K) : CallR X (.type "int") rIntN := by
  intro pins s σ H xs us Q I r h
  rcases h with ⟨i, rfl, q⟩ | ⟨a, m, rfl, hl, c, hm, q⟩
  · exact call_int1 pins s σ H _ us Q I r (.inl ⟨i, rfl, q⟩)
  · obtain ⟨u, rfl, t, rfl⟩ := vals1 r
    rcases c with c | c
    · exact PySem.W.KIN.call_text hm c ⟨.int m, H, I.tok _, ⟨_, rfl⟩, q⟩
    · refine call_int_1 (PySem.W.KIN.meets_textN (u := t) (Nat.le_trans hl (by rw [sizeLine_eq]; omega)) c hm) ⟨noDigits_of I n, ?_⟩
      exact ⟨typeIs_int _ _ _, .int m, H, I.tok _, ⟨_, rfl⟩, q⟩
/-- str(n) -/
def eStrOf (a : Ex) : Ex where
  sem := opSem [a.sem] (f1 strOfT)
  m := fun N sc cm e => cm && callM "str" (xs [a]) N sc cm e
  pre := fun Γ k => (Γ.mg "str" = none ∧ NoDig Γ.K) ∧ (xs [a]).pre Γ k
  snd := fun {X xi N sc lvl cm W e} g p h => by
    simp only [Bool.and_eq_true] at h
    obtain ⟨hc, h⟩ := h
    unfold callM at h
    split at h
    · simp only [Bool.and_eq_true, decide_eq_true_eq] at h
      obtain ⟨rfl, h1, h2, h3, h4⟩ := h
      have G := gl_of g.hsc h1
      refine PE.to (pe_callTy (call_strN (g.hcm hc) p.1.2) G.gl p.1.1 (by decide +kernel) ((xs [a]).snd g p.2 h4) G.nn G.db (starEach_of h2) (anyStar_of h3)) fun σ H Q hq => op_to (r := rStrN) (ok1 fun H s u x fx hg rx Q p => ?_) hq
      unfold strOfT at hg
      split at hg
      · split at hg
        · rename_i c
          cases hg
          obtain ⟨rfl, _⟩ := rx
          exact ⟨_, rfl, c, p.v ⟨rfl, rfl⟩⟩
        · cases hg
      · cases hg
    · cases h
/-- int(n), int(text) -/
def eIntT (a : Ex) : Ex where
  sem := opSem [a.sem] (f1 intOfT)
  m := callM "int" (xs [a])
  pre := fun Γ k => (Γ.mg "int" = none ∧ NoDig Γ.K) ∧ (xs [a]).pre Γ k
  snd := fun {X xi N sc lvl cm W e} g p h => by
    unfold callM at h
    split at h
    · simp only [Bool.and_eq_true, decide_eq_true_eq] at h
      obtain ⟨rfl, h1, h2, h3, h4⟩ := h
      have G := gl_of g.hsc h1
      refine PE.to (pe_callTy (call_intN p.1.2) G.gl p.1.1 (by decide +kernel) ((xs [a]).snd g p.2 h4) G.nn G.db (starEach_of h2) (anyStar_of h3)) fun σ H Q hq => op_to (r := rIntN) (ok1 fun H s u x fx hg rx Q p => ?_) hq
      unfold intOfT at hg
      split at hg
      · cases hg
        obtain ⟨rfl, _⟩ := rx
        exact .inl ⟨_, rfl, p.v ⟨rfl, rfl⟩⟩
      · split at hg
        · rename_i c
          split at hg
          · rename_i n hn
            cases hg
            obtain ⟨rfl, _⟩ := rx
            exact .inr ⟨_, _, rfl, c.1, c.2, hn, p.v ⟨rfl, rfl⟩⟩
          · cases hg
        · cases hg
      · cases hg
    · cases h
/-! ### isinstance -/
def T.tn : Pv.T → Option String
  | .non => some "NoneType"
  | .bl _ => some "bool"
  | .int _ => some "int"
  | .str _ => some "str"
  | .tup _ => some "tuple"
  | .lst _ => some "list"
  | _ => none
/-- the types asked for -/
inductive Ty where
  | int | str | tuple | list | bool
def Ty.nm : Ty → String
  | .int => "int"
  | .str => "str"
  | .tuple => "tuple"
  | .list => "list"
  | .bool => "bool"
def Ty.is : Ty → Pv.T → Bool
  | .int, .int _ => true
  | .int, .bl _ => true
  | .str, .str _ => true
  | .tuple, .tup _ => true
  | .list, .lst _ => true
  | .bool, .bl _ => true
  | _, _ => false
theorem kit_is (ty : Ty) (t : Pv.T) (n : String) (h : t.tn = some n) : kitB n ty.nm = some (ty.is t) := by
  cases t <;> cases h <;> cases ty <;> first | rfl | kernel_rfl
def isT (ty : Ty) (t : Pv.T) : Option Pv.T := match t.tn with
  | some _ => some (.bl (ty.is t))
  | none => none
theorem ty_x {K : PySem.W.Frag} {H : Hp} {t : Pv.T} {v : V} {f : List Addr} (r : Rep K H t v f) {n : String} (h : t.tn = some n) : TyX K H v (.type n) := by
  cases t with
  | non => cases h; rw [r.1]; exact .base .non
  | bl b => cases h; rw [r.1]; exact .base (.bl b)
  | int b => cases h; rw [r.1]; exact .base (.int b)
  | str b => cases h; rw [r.1]; exact .base (.str b)
  | tup ts =>
    cases h
    obtain ⟨a, vs, rfl, s, _⟩ := r
    exact .base (.tup s)
  | lst ts =>
    cases h
    obtain ⟨a, vs, g, rfl, _, s, _⟩ := r
    exact .base (.lst s)
  | fro ns => cases h
  | box => cases h
  | dct _ _ _ => cases h
  | obj _ _ _ => cases h
  | mob _ _ _ => cases h
/-- isinstance(e, ty) -/
def eIs (a : Ex) (ty : Ty) : Ex where
  sem := opSem [a.sem] (f1 (isT ty))
  m := fun N sc cm e => match e with
    | .Call (.Name y _) [e, .Name z _] [] _ => decide (y = "isinstance") && (glB sc y && (decide (z = Str.ofString ty.nm) && (glB sc z && (notStar e && a.m N sc cm e))))
    | _ => false
  pre := fun Γ k => (Γ.mg "isinstance" = none ∧ Γ.mg (Str.ofString ty.nm) = none) ∧ a.pre Γ k
  snd := fun {X xi N sc lvl cm W e} g p h => by
    split at h
    · simp only [Bool.and_eq_true, decide_eq_true_eq] at h
      obtain ⟨rfl, h1, rfl, h2, h3, h4⟩ := h
      have G := gl_of g.hsc h1
      have G2 := gl_of g.hsc h2
      have hv : bootBuiltins (Str.ofString ty.nm) = some (.type ty.nm) := by cases ty <;> decide +kernel
      refine PE.to (pe_callB (call_isi (X := X)) G.gl p.1.1 (by decide +kernel) (pa_cons (a.snd g p.2 h4) (pa_cons (pe_bltn (v := .ty ty.nm) G2.gl p.1.2 hv rfl G2.nn G2.db) pa_nil rfl) (starEach_of h3)) G.nn G.db (starEach_of h3) rfl) fun σ H Q hq => ?_
      have z := op_to (ss := [a.sem]) (f := f1 (isT ty)) (r := fun vs H Q => match vs with | [v] => rIsi X.K [v, .ty ty.nm] H Q | _ => False) (ok1 fun H s u x fx hg rx Q p => ?_) hq
      · exact z
      · show rIsi X.K [x, .ty ty.nm] H Q
        cases hn : s.tn with
        | none => cases s <;> first | (cases hn; done) | (cases hg; done)
        | some n =>
          have hu : u = .bl (ty.is s) := by cases s <;> cases hn <;> cases hg <;> rfl
          subst hu
          exact ⟨x, .ty ty.nm, .type n, .type ty.nm, ty.is s, rfl, .ty _, ty_x rx hn, kit_ty (kit_is ty s n hn), p.v ⟨rfl, rfl⟩⟩
    · cases h
end Pv
namespace Pv
open PySem L2
theorem pe_callS0 {X : Cx} {CX : CXT} {k : Nat} {f : Addr} {fd : FuncData} {ps : List Str} {sp : Sp} {x : Str} {E : L2.St → XK} {p pos : Pos} (F : FnOk X.prog X.w X.K X.mg X.base CX k f fd ps sp) (hr : Room k X.A) (hg : Gl X x) (hm : X.mg x = some (.ref f)) (hk : PySem.W.keepIn X.K (.ref f) = true) (hb : Binds X.K fd ps []) (hx : ∀ σ, PassesAt CX X σ (E σ))
    (hdb : (x == ("__debug__" : Str)) = false) : PE X (.Call (.Name x p) [] [] pos) (tCallS sp E tNil) := by
  refine ⟨fun pins s σ H Q I h => ?_⟩
  refine wpAny_Call_Name_kw (ld_glob I hg hm ?_ hdb)
  exact PySem.W.callWith_K0 I.kIn hk (run_fnS F hr hb (hx σ) I .nil h)
/-- f(), an own def -/
def eCall0 (F : Fn) : Ex where
  sem := effSem F.np [] F.φ
  m := fun N sc cm e => match e with
    | .Call (.Name y _) [] [] _ => cm && (decide (y = F.name) && glB sc y)
    | _ => false
  pre := fun Γ k => Has Γ k F
  snd := fun {X xi N sc lvl cm W e} g p h => by
    split at h
    · simp only [Bool.and_eq_true, decide_eq_true_eq] at h
      obtain ⟨hc, rfl, h1⟩ := h
      have G := gl_of g.hsc h1
      obtain ⟨f, fd, ps, k1, k2, k3, k4⟩ := p
      exact PE.to (pe_callS0 k4 (g.room hc) G.gl k1 k2 k3 (fun σ => passAt g.tk σ) G.db) fun σ H Q hq =>
        eff_to (ss := []) (r := fun σ vs H Q => spF X.K xi F.np F.φ vs H Q (WE W σ)) (fun vs H Q z => z) hq
    · cases h
end Pv
set_option Elab.async false
set_option linter.all false
set_option maxRecDepth 100000
set_option maxHeartbeats 1000000
/-! Pv part P: rules to run the terms. -/
namespace Pv
open PySem L2
section
variable {a : Sx} {l : List Sx} {ρ ρ1 ρ2 : Rho} {t : T} {c : Nat}
theorem b_nil : (blk []).sem ρ = .nx ρ := rfl
theorem b_nx (h : a.sem ρ = .nx ρ1) : (blk (a :: l)).sem ρ = (blk l).sem ρ1 := by
  show seqS a.sem (blk l).sem ρ = _
  unfold seqS; rw [h]
theorem b_ret (h : a.sem ρ = .ret t ρ1) : (blk (a :: l)).sem ρ = .ret t ρ1 := by
  show seqS a.sem (blk l).sem ρ = _
  unfold seqS; rw [h]
theorem b_ex (h : a.sem ρ = .ex c t ρ1) : (blk (a :: l)).sem ρ = .ex c t ρ1 := by
  show seqS a.sem (blk l).sem ρ = _
  unfold seqS; rw [h]
theorem b_one (h : ∀ x, a.sem ρ = x → True) : (blk [a]).sem ρ = a.sem ρ := by
  show seqS a.sem (blk []).sem ρ = _
  unfold seqS
  cases a.sem ρ <;> rfl
end
theorem i_c {q : Bx} {x y : Bl} {ρ ρ1 : Rho} {k τ : Bool} (h : q.sem ρ = .ok k ρ1 τ) : (sIf q x y).sem ρ = if k = true then x.sem ρ1 else y.sem ρ1 := by
  show ifS q.sem x.sem y.sem ρ = _
  unfold ifS; rw [h]
theorem i_t {q : Bx} {x y : Bl} {ρ ρ1 : Rho} {τ : Bool} (h : q.sem ρ = .ok true ρ1 τ) : (sIf q x y).sem ρ = x.sem ρ1 := (i_c h).trans (if_pos rfl)
theorem i_f {q : Bx} {x y : Bl} {ρ ρ1 : Rho} {τ : Bool} (h : q.sem ρ = .ok false ρ1 τ) : (sIf q x y).sem ρ = y.sem ρ1 := (i_c h).trans (if_neg Bool.false_ne_true)
theorem s_set {tg : Tgt} {a : Ex} {ρ ρ1 ρ2 : Rho} {t : T} {τ : Bool} (h : a.sem ρ = .ok (.v t) ρ1 τ) (h2 : tg.sem t ρ1 = some ρ2) : (sSet tg a).sem ρ = .nx ρ2 := by
  show asgS tg.sem a.sem ρ = _
  unfold asgS; rw [h]; simp only; rw [h2]
theorem s_set_ex {tg : Tgt} {a : Ex} {ρ ρ1 : Rho} {t : T} {c : Nat} (h : a.sem ρ = .ex c t ρ1) : (sSet tg a).sem ρ = .ex c t ρ1 := by
  show asgS tg.sem a.sem ρ = _
  unfold asgS; rw [h]
theorem s_ret {a : Ex} {ρ ρ1 : Rho} {t : T} {τ : Bool} (h : a.sem ρ = .ok (.v t) ρ1 τ) : (sRet a).sem ρ = .ret t ρ1 := by
  show retS a.sem ρ = _
  unfold retS; rw [h]
theorem fn_ret {n : Nat} {b : Bl} {ts : List T} {t : T} {ρ0 ρ ρb : Rho} (e : ts.map some ++ List.replicate (n - ts.length) none = ρ0) (h : b.sem ρ0 = .ret t ρ) (eb : back ts 0 ρ = ρb) (c : calmArgs b.asg 0 ts = true) : fnSem n b ts = .ok t ρb := by
  unfold fnSem
  rw [if_pos c, e, h, ← eb]
  rfl
theorem fn_nx {n : Nat} {b : Bl} {ts : List T} {ρ0 ρ ρb : Rho} (e : ts.map some ++ List.replicate (n - ts.length) none = ρ0) (h : b.sem ρ0 = .nx ρ) (eb : back ts 0 ρ = ρb) (c : calmArgs b.asg 0 ts = true) : fnSem n b ts = .ok .non ρb := by
  unfold fnSem
  rw [if_pos c, e, h, ← eb]
  rfl
theorem fn_ex {n : Nat} {b : Bl} {ts : List T} {x : Nat} {t : T} {ρ0 ρ ρb : Rho} (e : ts.map some ++ List.replicate (n - ts.length) none = ρ0) (h : b.sem ρ0 = .ex x t ρ) (eb : back ts 0 ρ = ρb) (c : calmArgs b.asg 0 ts = true) : fnSem n b ts = .ex x t ρb := by
  unfold fnSem
  rw [if_pos c, e, h, ← eb]
  rfl
/-- a call in a value's place -/
theorem e_call {F : Fn} {a : Xs} {ρ ρ1 ρ2 : Rho} {os : List O} {ts : List T} {r : T} {ρA : Rho} {τ : Bool} (h : evL a.sems ρ = .ok os ρ1 τ) (g : getOs ρ1 os = some ts) (hn : ts.length = F.np) (hs : nodupB (slots os) = true) (f : F.φ ts = .ok r ρA) (w : wb os ρA ρ1 = some ρ2) :
    (eCall F a).sem ρ = .ok (.v r) ρ2 (τ || !(slots os).isEmpty) := by
  show effSem F.np a.sems F.φ ρ = _
  unfold effSem
  rw [h]; simp only; rw [g]; simp only
  rw [if_pos ⟨hs, hn⟩, f]
  unfold effFin
  simp only
  rw [w]
theorem e_call_ex {F : Fn} {a : Xs} {ρ ρ1 ρ2 : Rho} {os : List O} {ts : List T} {c : Nat} {r : T} {ρA : Rho} {τ : Bool} (h : evL a.sems ρ = .ok os ρ1 τ) (g : getOs ρ1 os = some ts) (hn : ts.length = F.np) (hs : nodupB (slots os) = true) (f : F.φ ts = .ex c r ρA) (w : wb os ρA ρ1 = some ρ2) :
    (eCall F a).sem ρ = .ex c r ρ2 := by
  show effSem F.np a.sems F.φ ρ = _
  unfold effSem
  rw [h]; simp only; rw [g]; simp only
  rw [if_pos ⟨hs, hn⟩, f]
  unfold effFin
  simp only
  rw [w]
theorem ev2 {s1 s2 : Rho → R} {ρ ρ1 ρ2 : Rho} {o1 o2 : O} {τ1 τ2 : Bool} (h1 : s1 ρ = .ok o1 ρ1 τ1) (h2 : s2 ρ1 = .ok o2 ρ2 τ2) (d : ((o1.deep && τ2) || !o1.there ρ2) = false) (d2 : o2.there ρ2 = true) : evL [s1, s2] ρ = .ok [o1, o2] ρ2 (τ1 || τ2) := by
  have e2 : evL [s2] ρ1 = .ok [o2] ρ2 (τ2 || false) := by
    simp only [evL, h2]
    rw [if_neg (by simp [d2])]
  have e : evL (s1 :: [s2]) ρ = (match s1 ρ with
    | .ok o ρ1 τ1 => match evL [s2] ρ1 with
      | .ok os ρ2 τ2 => if (o.deep && τ2) || !o.there ρ2 then .stuck else .ok (o :: os) ρ2 (τ1 || τ2)
      | .ex c t ρ2 => .ex c t ρ2
      | .stuck => .stuck
    | .ex c t ρ1 => .ex c t ρ1
    | .stuck => .stuck) := rfl
  rw [e, h1]
  simp only
  rw [e2]
  simp only [Bool.or_false]
  rw [if_neg (by rw [d]; exact Bool.false_ne_true)]
theorem ev1 {s1 : Rho → R} {ρ ρ1 : Rho} {o1 : O} {τ1 : Bool} (h1 : s1 ρ = .ok o1 ρ1 τ1) (d : o1.there ρ1 = true) : evL [s1] ρ = .ok [o1] ρ1 τ1 := by
  simp only [evL, h1]
  rw [if_neg (by simp [d])]
  simp
theorem e_bin {op : Operator} {a b : Ex} {ρ ρ1 ρ2 : Rho} {o1 o2 : O} {x y z : T} {τ1 τ2 : Bool} (h1 : a.sem ρ = .ok o1 ρ1 τ1) (h2 : b.sem ρ1 = .ok o2 ρ2 τ2) (d : ((o1.deep && τ2) || !o1.there ρ2) = false) (d2 : o2.there ρ2 = true) (g1 : getO ρ2 o1 = some x) (g2 : getO ρ2 o2 = some y)
    (hz : binT op x y = some z) : (eBin op a b).sem ρ = .ok (.v z) ρ2 (τ1 || τ2) := by
  show opSem [a.sem, b.sem] (f2 (binT op)) ρ = _
  unfold opSem
  rw [ev2 h1 h2 d d2]
  simp only [f2, g1, g2, hz]
theorem e_cmp {op : CmpOp} {a b : Ex} {ρ ρ1 ρ2 : Rho} {o1 o2 : O} {x y : T} {k : Bool} {τ1 τ2 : Bool} (h1 : a.sem ρ = .ok o1 ρ1 τ1) (h2 : b.sem ρ1 = .ok o2 ρ2 τ2) (d : ((o1.deep && τ2) || !o1.there ρ2) = false) (d2 : o2.there ρ2 = true) (g1 : getO ρ2 o1 = some x) (g2 : getO ρ2 o2 = some y)
    (hz : cmpT op x y = some k) : (eCmp op a b).sem ρ = .ok (.v (.bl k)) ρ2 (τ1 || τ2) := by
  show opSem [a.sem, b.sem] (f2 (cmpV op)) ρ = _
  unfold opSem
  rw [ev2 h1 h2 d d2]
  simp only [f2, g1, g2, cmpV, hz, Option.map_some]
theorem b_cmp {op : CmpOp} {a b : Ex} {ρ ρ1 ρ2 : Rho} {o1 o2 : O} {x y : T} {k : Bool} {τ1 τ2 : Bool} (h1 : a.sem ρ = .ok o1 ρ1 τ1) (h2 : b.sem ρ1 = .ok o2 ρ2 τ2) (d : ((o1.deep && τ2) || !o1.there ρ2) = false) (d2 : o2.there ρ2 = true) (g1 : getO ρ2 o1 = some x) (g2 : getO ρ2 o2 = some y)
    (hz : cmpT op x y = some k) : (bCmp op a b).sem ρ = .ok k ρ2 (τ1 || τ2) := by
  show boolSem (eCmp op a b).sem ρ = _
  unfold boolSem
  rw [e_cmp h1 h2 d d2 g1 g2 hz]
theorem b_tru {a : Ex} {ρ ρ1 : Rho} {o : O} {t : T} {k τ : Bool} (h : a.sem ρ = .ok o ρ1 τ) (g : getO ρ1 o = some t) (hk : truthT t = some k) : (bTruth a).sem ρ = .ok k ρ1 τ := by
  show truSem a.sem ρ = _
  unfold truSem
  rw [h]; simp only; rw [g]; simp only; rw [hk]
theorem b_not {a : Bx} {ρ ρ1 : Rho} {k τ : Bool} (h : a.sem ρ = .ok k ρ1 τ) : (bNot a).sem ρ = .ok (!k) ρ1 τ := by
  show notSem a.sem ρ = _
  unfold notSem
  rw [h]
theorem or_1 {a : Bx} {ρ : Rho} : (bOr [a]).sem ρ = a.sem ρ := rfl
theorem and_1 {a : Bx} {ρ : Rho} : (bAnd [a]).sem ρ = a.sem ρ := rfl
theorem or_t {a b : Bx} {r : List Bx} {ρ ρ1 : Rho} {τ : Bool} (h : a.sem ρ = .ok true ρ1 τ) : (bOr (a :: b :: r)).sem ρ = .ok true ρ1 τ := by
  show orSem (a.sem :: b.sem :: r.map Bx.sem) ρ = _
  unfold orSem
  rw [h]
theorem or_f {a b : Bx} {r : List Bx} {ρ ρ1 ρ2 : Rho} {k τ τ2 : Bool} (h : a.sem ρ = .ok false ρ1 τ) (h2 : (bOr (b :: r)).sem ρ1 = .ok k ρ2 τ2) : (bOr (a :: b :: r)).sem ρ = .ok k ρ2 (τ || τ2) := by
  show orSem (a.sem :: b.sem :: r.map Bx.sem) ρ = _
  unfold orSem
  rw [h]
  simp only
  rw [show orSem (b.sem :: r.map Bx.sem) ρ1 = .ok k ρ2 τ2 from h2]
theorem and_f {a b : Bx} {r : List Bx} {ρ ρ1 : Rho} {τ : Bool} (h : a.sem ρ = .ok false ρ1 τ) : (bAnd (a :: b :: r)).sem ρ = .ok false ρ1 τ := by
  show andSem (a.sem :: b.sem :: r.map Bx.sem) ρ = _
  unfold andSem
  rw [h]
theorem and_t {a b : Bx} {r : List Bx} {ρ ρ1 ρ2 : Rho} {k τ τ2 : Bool} (h : a.sem ρ = .ok true ρ1 τ) (h2 : (bAnd (b :: r)).sem ρ1 = .ok k ρ2 τ2) : (bAnd (a :: b :: r)).sem ρ = .ok k ρ2 (τ || τ2) := by
  show andSem (a.sem :: b.sem :: r.map Bx.sem) ρ = _
  unfold andSem
  rw [h]
  simp only
  rw [show andSem (b.sem :: r.map Bx.sem) ρ1 = .ok k ρ2 τ2 from h2]
theorem s_setix {i0 : Nat} {j : Int} {a : Ex} {ρ ρ1 : Rho} {t : T} {ts : List T} {k : Nat} {τ : Bool} (h : a.sem ρ = .ok (.v t) ρ1 τ) (hd : ρ1[i0]? = some (some (.lst ts))) (hk : ixN ts.length j = some k) :
    (sSetIx (eVar i0) (eInt j) a).sem ρ = .nx (ρ1.set i0 (some (.lst (ts.set k t)))) := by
  have ev : (eVar i0).sem ρ1 = .ok (.p i0 []) ρ1 false := by
    show varSem i0 ρ1 = _
    unfold varSem
    rw [hd]
    rfl
  have th : O.there ρ1 (.p i0 []) = true := by simp only [O.there, hd]
  have e : evL [a.sem, (eVar i0).sem, (eInt j).sem] ρ = .ok [.v t, .p i0 [], .v (.int j)] ρ1 (τ || (false || (false || false))) := by
    have e3 : evL [(eInt j).sem] ρ1 = .ok [.v (.int j)] ρ1 (false || false) := rfl
    have e2 : evL [(eVar i0).sem, (eInt j).sem] ρ1 = .ok [.p i0 [], .v (.int j)] ρ1 (false || (false || false)) := by
      unfold evL
      rw [ev]
      simp only
      rw [e3]
      simp only
      rw [if_neg (by simp [th, O.deep])]
    unfold evL
    rw [h]
    simp only
    rw [e2]
    simp only
    rw [if_neg (by simp [O.deep, O.there])]
  show effS (effSem 3 [a.sem, (eVar i0).sem, (eInt j).sem] setF) ρ = _
  unfold effS effSem
  rw [e]
  simp only [getOs, getO, hd, T.at]
  rw [if_pos ⟨rfl, rfl⟩]
  simp only [setF, hk, effFin, wb, hd, T.put]
theorem e_ix {a b : Ex} {ρ ρ1 ρ2 : Rho} {o1 o2 o : O} {x y : T} {τ1 τ2 : Bool} (h1 : a.sem ρ = .ok o1 ρ1 τ1) (h2 : b.sem ρ1 = .ok o2 ρ2 τ2) (d : ((o1.deep && τ2) || !o1.there ρ2) = false) (d2 : o2.there ρ2 = true) (g1 : getO ρ2 o1 = some x) (g2 : getO ρ2 o2 = some y)
    (hz : ixO ρ2 o1 x y = some o) : (eIx a b).sem ρ = .ok o ρ2 (τ1 || τ2) := by
  show ixSem a.sem b.sem ρ = _
  unfold ixSem
  rw [ev2 h1 h2 d d2]
  simp only [g1, g2, hz]
theorem e_if {c : Bx} {a b : Ex} {ρ ρ1 ρ2 : Rho} {k τ τ2 : Bool} {o : O} (h : c.sem ρ = .ok k ρ1 τ) (h2 : (if k = true then a.sem ρ1 else b.sem ρ1) = .ok o ρ2 τ2) : (eIf c a b).sem ρ = .ok o ρ2 (τ || τ2) := by
  show ifV c.sem a.sem b.sem ρ = _
  unfold ifV
  rw [h]
  simp only
  cases k with
  | true => rw [if_pos rfl] at h2 ⊢; rw [h2]
  | false => rw [if_neg Bool.false_ne_true] at h2 ⊢; rw [h2]
theorem chain_f {op op' : CmpOp} {a b c : Ex} {ρ : Rho} {s t : T} (h1 : a.sem ρ = .ok (.v s) ρ false) (h2 : b.sem ρ = .ok (.v t) ρ false) (im : (s.imm && t.imm) = true) (hk : cmpT op s t = some false) : (bChain op op' a b c).sem ρ = .ok false ρ false := by
  show chainSem op op' a.sem b.sem c.sem ρ = _
  unfold chainSem
  rw [h1]; simp only; rw [h2]; simp only; rw [im, hk]
theorem chain_t {op op' : CmpOp} {a b c : Ex} {ρ : Rho} {s t u : T} {k : Bool} (h1 : a.sem ρ = .ok (.v s) ρ false) (h2 : b.sem ρ = .ok (.v t) ρ false) (h3 : c.sem ρ = .ok (.v u) ρ false) (im : (s.imm && t.imm) = true) (im2 : u.imm = true) (hk : cmpT op s t = some true) (hk2 : cmpT op' t u = some k) :
    (bChain op op' a b c).sem ρ = .ok k ρ false := by
  show chainSem op op' a.sem b.sem c.sem ρ = _
  unfold chainSem
  rw [h1]; simp only; rw [h2]; simp only; rw [im, hk]; simp only; rw [h3]; simp only; rw [im2, hk2]
theorem s_for {tg : Tgt} {it : Ix} {b : Bl} {ρ ρ1 : Rho} {items : List T} {τ : Bool} (h : it.sem ρ = .ok items ρ1 τ false) : (sFor tg it b).sem ρ = forF tg.sem b.sem items ρ1 := by
  show forS it.sem tg.sem b.sem ρ = _
  unfold forS
  rw [h]
  rfl
theorem f_nil {set : T → Rho → Option Rho} {b : Rho → RS} {ρ : Rho} : forF set b [] ρ = .nx ρ := rfl
theorem f_nx {set : T → Rho → Option Rho} {b : Rho → RS} {t : T} {ts : List T} {ρ ρ1 ρ2 : Rho} (h : set t ρ = some ρ1) (h2 : b ρ1 = .nx ρ2) : forF set b (t :: ts) ρ = forF set b ts ρ2 := by
  simp only [forF, h, h2]
theorem f_ret {set : T → Rho → Option Rho} {b : Rho → RS} {t r : T} {ts : List T} {ρ ρ1 ρ2 : Rho} (h : set t ρ = some ρ1) (h2 : b ρ1 = .ret r ρ2) : forF set b (t :: ts) ρ = .ret r ρ2 := by
  simp only [forF, h, h2]
theorem s_while {n : Nat} {c : Bx} {b : Bl} {ρ : Rho} : (sWhile n c b).sem ρ = whileF n c.sem b.sem ρ := rfl
theorem w_end {n : Nat} {c : Rho → RB} {b : Rho → RS} {ρ ρ1 : Rho} {τ : Bool} (h : c ρ = .ok false ρ1 τ) : whileF (n + 1) c b ρ = .nx ρ1 := by
  simp only [whileF, h]
  rfl
theorem w_nx {n : Nat} {c : Rho → RB} {b : Rho → RS} {ρ ρ1 ρ2 : Rho} {τ : Bool} (h : c ρ = .ok true ρ1 τ) (h2 : b ρ1 = .nx ρ2) : whileF (n + 1) c b ρ = whileF n c b ρ2 := by
  simp only [whileF, h, h2]
  rfl
theorem w_ret {n : Nat} {c : Rho → RB} {b : Rho → RS} {ρ ρ1 ρ2 : Rho} {τ : Bool} {t : T} (h : c ρ = .ok true ρ1 τ) (h2 : b ρ1 = .ret t ρ2) : whileF (n + 1) c b ρ = .ret t ρ2 := by
  simp only [whileF, h, h2]
  rfl
/-! ### texts -/
theorem e_len_s {a : Ex} {ρ ρ1 : Rho} {o : O} {z : Str} {τ : Bool} (h : a.sem ρ = .ok o ρ1 τ) (d : o.there ρ1 = true) (g : getO ρ1 o = some (.str z)) (hz : z.length ≤ sizeLine) : (eLen a).sem ρ = .ok (.v (.int z.length)) ρ1 τ := by
  show opSem [a.sem] (f1 lenT) ρ = _
  unfold opSem
  rw [ev1 h d]
  simp only [f1, g, lenT, if_pos hz]
theorem ix_str {ρ : Rho} {o : O} {z : Str} {i : Int} {c : Nat} (hz : z.length ≤ sizeLine) (hc : atI z.cps.toList i = some c) : ixO ρ o (.str z) (.int i) = some (.v (.str ⟨#[c]⟩)) := by
  simp only [ixO, if_pos hz, hc]
theorem shaped_str {x : Str} (h : ∀ c ∈ x.cps.toList, c < 0x110000) : SeqAt.shaped (T.str x).toD = true := by
  have : PyData.strOk x = true := by
    unfold PyData.strOk
    rw [← Array.all_toList, List.all_eq_true]
    intro c hc
    exact decide_eq_true (h c hc)
  show (PyData.canLay0 (.str x) && decide (PyData.depth (.str x) ≤ 64)) = true
  rw [show PyData.canLay0 (.str x) = PyData.strOk x from rfl, this]
  rfl
theorem eq_str {x y : Str} (hx : ∀ c ∈ x.cps.toList, c < 0x110000) (hy : ∀ c ∈ y.cps.toList, c < 0x110000) : eqT (.str x) (.str y) = some (x == y) := by
  unfold eqT
  rw [if_pos ⟨shaped_str hx, shaped_str hy⟩]
  rfl
theorem allV_map : ∀ ts : List T, allV (ts.map .v) = some ts
  | [] => rfl
  | t :: ts => by simp only [List.map_cons, allV, allV_map ts]
theorem e_tup {a : Xs} {ρ ρ1 : Rho} {ts : List T} {τ : Bool} (h : evL a.sems ρ = .ok (ts.map .v) ρ1 τ) (hl : ts.length ≤ 10000) : (eTup a).sem ρ = .ok (.v (.tup ts)) ρ1 τ := by
  show opSem a.sems tupF ρ = _
  unfold opSem
  rw [h]
  simp only [tupF, allV_map, if_pos hl]
theorem evc {s : Rho → R} {ss : List (Rho → R)} {ρ ρ1 ρ2 : Rho} {t : T} {os : List O} {τ1 τ2 : Bool} (h : s ρ = .ok (.v t) ρ1 τ1) (h2 : evL ss ρ1 = .ok os ρ2 τ2) : evL (s :: ss) ρ = .ok (.v t :: os) ρ2 (τ1 || τ2) := by
  have e : evL (s :: ss) ρ = (match s ρ with
    | .ok o ρ1 τ1 => match evL ss ρ1 with
      | .ok os ρ2 τ2 => if (o.deep && τ2) || !o.there ρ2 then .stuck else .ok (o :: os) ρ2 (τ1 || τ2)
      | .ex c t ρ2 => .ex c t ρ2
      | .stuck => .stuck
    | .ex c t ρ1 => .ex c t ρ1
    | .stuck => .stuck) := rfl
  rw [e, h]
  simp only
  rw [h2]
  simp only
  rw [if_neg (by simp [O.deep, O.there])]
theorem evn {ρ : Rho} : evL [] ρ = .ok [] ρ false := rfl
/-! ### lists in slots -/
theorem v_lst {i : Nat} {ρ : Rho} {ts : List T} (h : ρ[i]? = some (some (.lst ts))) : (eVar i).sem ρ = .ok (.p i []) ρ false := by
  show varSem i ρ = _
  unfold varSem
  rw [h]
  rfl
theorem v_imm {i : Nat} {ρ : Rho} {t : T} (h : ρ[i]? = some (some t)) (im : t.imm = true) : (eVar i).sem ρ = .ok (.v t) ρ false := by
  show varSem i ρ = _
  unfold varSem
  rw [h]
  simp only
  rw [if_pos im]
theorem k_lst {i : Nat} {ρ : Rho} {ts : List T} (h : ρ[i]? = some (some (.lst ts))) : kindSem isLst (eVar i).sem ρ = .ok (.p i []) ρ false := by
  unfold kindSem
  rw [v_lst h]
  simp only [getO, h, T.at]
  rfl
theorem s_app {i : Nat} {a : Ex} {ρ ρ1 : Rho} {ts ts1 : List T} {t : T} {τ : Bool} (h : ρ[i]? = some (some (.lst ts1))) (ha : a.sem ρ = .ok (.v t) ρ1 τ) (h1 : ρ1[i]? = some (some (.lst ts))) (hl : ts.length < sizeLine) :
    (sExpr (eAppend (eVar i) a)).sem ρ = .nx (ρ1.set i (some (.lst (ts ++ [t])))) := by
  show exprS (effSem 2 [kindSem isLst (eVar i).sem, a.sem] appendF) ρ = _
  have th : O.there ρ1 (.p i []) = true := by simp only [O.there, h1]
  unfold exprS effSem
  rw [ev2 (k_lst h) ha (by simp [th, O.deep]) rfl]
  simp only [getOs, getO, h1, T.at]
  rw [if_pos ⟨rfl, rfl⟩]
  simp only [appendF, if_pos hl, effFin, wb, h1, T.put]
theorem e_pop {i : Nat} {ρ : Rho} {ts : List T} {t : T} (h : ρ[i]? = some (some (.lst ts))) (hl : ts.getLast? = some t) : (ePop (eVar i)).sem ρ = .ok (.v t) (ρ.set i (some (.lst ts.dropLast))) true := by
  show effSem 1 [kindSem isLst (eVar i).sem] popF ρ = _
  unfold effSem
  rw [ev1 (k_lst h) (by simp only [O.there, h])]
  simp only [getOs, getO, h, T.at]
  rw [if_pos ⟨rfl, rfl⟩]
  simp only [popF, hl, effFin, wb, h, T.put]
  rfl
theorem ixN_last (n : Nat) : ixN (n + 1) (-1) = some n := by
  unfold ixN
  rw [if_neg (by decide), if_pos (by omega)]
  congr 1
  omega
theorem ix_last {i : Nat} {ρ : Rho} {pre : List T} {row : List T} (h : ρ[i]? = some (some (.lst (pre ++ [.lst row])))) : (eIx (eVar i) (eNeg (eInt 1))).sem ρ = .ok (.p i [pre.length]) ρ false := by
  have th : O.there ρ (.p i []) = true := by simp only [O.there, h]
  refine e_ix (τ1 := false) (τ2 := false) (o2 := .v (.int (-1))) (x := .lst (pre ++ [.lst row])) (y := .int (-1)) (v_lst h) rfl (by simp [th, O.deep]) rfl (by simp only [getO, h, T.at]) rfl ?_
  have e : (pre ++ [T.lst row])[pre.length]? = some (.lst row) := by simp
  simp only [ixO, List.length_append, List.length_cons, List.length_nil, Nat.zero_add, ixN_last, e, itemO]
  rfl
theorem s_app_last {i : Nat} {a : Ex} {ρ : Rho} {pre row : List T} {t : T} (h : ρ[i]? = some (some (.lst (pre ++ [.lst row])))) (ha : a.sem ρ = .ok (.v t) ρ false) (hl : row.length < sizeLine) :
    (sExpr (eAppend (eIx (eVar i) (eNeg (eInt 1))) a)).sem ρ = .nx (ρ.set i (some (.lst (pre ++ [.lst (row ++ [t])])))) := by
  show exprS (effSem 2 [kindSem isLst (eIx (eVar i) (eNeg (eInt 1))).sem, a.sem] appendF) ρ = _
  have e : (pre ++ [T.lst row])[pre.length]? = some (.lst row) := by simp
  have g : getO ρ (.p i [pre.length]) = some (.lst row) := by simp only [getO, h, T.at, T.items, e]
  have kl : kindSem isLst (eIx (eVar i) (eNeg (eInt 1))).sem ρ = .ok (.p i [pre.length]) ρ false := by
    unfold kindSem
    rw [ix_last h]
    simp only
    rw [g]
    rfl
  unfold exprS effSem
  have gs : getOs ρ [.p i [pre.length], .v t] = some [.lst row, t] := by
    unfold getOs
    rw [g]
    rfl
  rw [ev2 kl ha (by simp [O.deep, O.there]) rfl]
  simp only
  rw [gs]
  simp only
  rw [if_pos ⟨rfl, rfl⟩]
  simp only [appendF, if_pos hl, effFin, wb, h, T.put, T.items, e, T.remake]
  congr 3
  simp
end Pv
set_option Elab.async false
set_option linter.all false
set_option maxRecDepth 100000
set_option maxHeartbeats 1000000
/-! Pv part Q: the terms' meanings, for simp. -/
namespace Pv
open PySem L2
section
variable (i : Nat) (a b c x y : Ex) (o e : Ex) (l : List Ex) (q r : Bx) (u v : Bl) (tg : Tgt) (it : Ix) (F : Fn) (s : Sx) (ss : List Sx)
theorem z_blk0 : (blk []).sem = RS.nx := rfl
theorem z_blk : (blk (s :: ss)).sem = seqS s.sem (blk ss).sem := rfl
theorem z_set : (sSet tg a).sem = asgS tg.sem a.sem := rfl
theorem z_setix (k : Ex) : (sSetIx o k a).sem = effS (effSem 3 [a.sem, o.sem, k.sem] setF) := rfl
theorem z_expr : (sExpr a).sem = exprS a.sem := rfl
theorem z_ret : (sRet a).sem = retS a.sem := rfl
theorem z_if : (sIf q u v).sem = ifS q.sem u.sem v.sem := rfl
theorem z_while (n : Nat) : (sWhile n q u).sem = whileF n q.sem u.sem := rfl
theorem z_for : (sFor tg it u).sem = forS it.sem tg.sem u.sem := rfl
theorem z_var : (eVar i).sem = varSem i := rfl
theorem z_int (n : Int) : (eInt n).sem = cSem (.int n) := rfl
theorem z_str (n : Str) : (eStr n).sem = cSem (.str n) := rfl
theorem z_bl (n : Bool) : (eBl n).sem = cSem (.bl n) := rfl
theorem z_non : eNon.sem = cSem .non := rfl
theorem z_bin (op : Operator) : (eBin op a b).sem = opSem [a.sem, b.sem] (f2 (binT op)) := rfl
theorem z_cmp (op : CmpOp) : (eCmp op a b).sem = opSem [a.sem, b.sem] (f2 (cmpV op)) := rfl
theorem z_bcmp (op : CmpOp) : (bCmp op a b).sem = boolSem (opSem [a.sem, b.sem] (f2 (cmpV op))) := rfl
theorem z_tru : (bTruth a).sem = truSem a.sem := rfl
theorem z_not : (bNot q).sem = notSem q.sem := rfl
theorem z_or (qs : List Bx) : (bOr qs).sem = orSem (qs.map Bx.sem) := rfl
theorem z_and (qs : List Bx) : (bAnd qs).sem = andSem (qs.map Bx.sem) := rfl
theorem z_call (z : Xs) : (eCall F z).sem = effSem F.np z.sems F.φ := rfl
theorem z_call0 : (eCall0 F).sem = effSem F.np [] F.φ := rfl
theorem z_xs0 : (xs []).sems = [] := rfl
theorem z_xs : (xs (a :: l)).sems = a.sem :: (xs l).sems := rfl
theorem z_ix : (eIx a b).sem = ixSem a.sem b.sem := rfl
theorem z_len : (eLen a).sem = opSem [a.sem] (f1 lenT) := rfl
theorem z_tup (z : Xs) : (eTup z).sem = opSem z.sems tupF := rfl
theorem z_lst (z : Xs) : (eLst z).sem = opSem z.sems lstF := rfl
theorem z_eif : (eIf q a b).sem = ifV q.sem a.sem b.sem := rfl
theorem z_app : (eAppend o a).sem = effSem 2 [kindSem isLst o.sem, a.sem] appendF := rfl
theorem z_pop : (ePop o).sem = effSem 1 [kindSem isLst o.sem] popF := rfl
theorem z_tuple : (eTuple a).sem = opSem [a.sem] (f1 tupleT) := rfl
theorem z_list : (eList a).sem = opSem [a.sem] (f1 listT) := rfl
theorem z_gN : (gN i).sem = fun t (ρ : Rho) => if i < ρ.length then some (ρ.set i (some t)) else none := rfl
end
end Pv
set_option Elab.async false
set_option linter.all false
set_option maxRecDepth 100000
set_option maxHeartbeats 2000000
/-! Pv part S: enumerate over a tuple. -/
namespace PySem
open Sem (wp)
open AutoSeq1 (wpAny_loadPart')
theorem pv_meets_enumT (t : Addr) (its : Array Value) (n : Nat) (dct : Option Addr) (sl : Array (Option Value)) :
    Meets (Builtin.«enumerate.__new__» ⟨[.type "enumerate", .ref t], []⟩) (fun _ R z => z.heap.get? t = some { cls := .type "tuple", dict := dct, data := .seq its n, slots := sl } ∧
      R (.ok (.ret (.ref (z.heap.push { cls := .type "tuple_iterator", data := .fields #[.ref t, .int 0 0] }).objs.size)))
        { z with heap := (z.heap.push { cls := .type "tuple_iterator", data := .fields #[.ref t, .int 0 0] }).push { cls := .type "enumerate", data := .fields #[.none, .bool false, .ref z.heap.objs.size, rawInt 0, .none, .none] } }) :=
  .of_wp fun prog w A R z q => by
    obtain ⟨hp, g, d, tk, os⟩ := z
    obtain ⟨hl, q⟩ := q
    have sub := sub_enumerate
    have tT : Heap.IsTuple (Shared.heap ⟨hp, g, d, tk, os⟩) t its := ⟨_, hl, rfl, n, rfl⟩
    wp_walk using wpAny_loadPart' hl
    refine wpAny_stack_any fun st => wpAny_pure ?_
    split
    · rename_i c _ _ _ _ _
      cases (c == Value.type "enumerate") <;> (wp_walk using wpAny_loadPart' hl, wpAny_pyIter_tuple tT; exact ⟨_, rfl, q⟩)
    · wp_walk using wpAny_loadPart' hl, wpAny_pyIter_tuple tT
      exact ⟨_, rfl, q⟩
theorem pv_call_enumT {prog : Program} {w : World} {A : Around} {E : Value → Shared → Prop} {z : Shared} {t : Addr} {its : Array Value} {Q : Value → Shared → Prop} (tT : z.heap.IsTuple t its)
    (q : ∀ h', IsEnum h' (z.heap.objs.size + 1) z.heap.objs.size 0 .none → h'.IsTupleIter z.heap.objs.size t 0 → (∀ b o, z.heap.get? b = some o → h'.get? b = some o) → Q (.ref (z.heap.objs.size + 1)) { z with heap := h' }) :
    wpAny (model prog w) A (call (.type "enumerate") [.ref t]) Q E z := by
  obtain ⟨⟨c, dct, dt, sl⟩, hl, hc, n, hd⟩ := tT
  replace hc : c = .type "tuple" := hc
  replace hd : dt = .seq its n := hd
  subst hc hd
  refine callType_new F.called_enumerate (by decide) (F.typeCall_enumerate_1 _) (F.newCall_enumerate_1 _) (fun obj => F.args_object_init_2 obj _) F.entry_enumerate_new (pv_meets_enumT t its n dct sl) ⟨hl, ?_⟩
  have sz : (z.heap.push { cls := .type "tuple_iterator", data := .fields #[.ref t, .int 0 0] }).objs.size = z.heap.objs.size + 1 := Heap.size_push ..
  show _ ∧ _
  rw [sz]
  have he : IsEnum ((z.heap.push { cls := .type "tuple_iterator", data := .fields #[.ref t, .int 0 0] }).push { cls := .type "enumerate", data := .fields #[.none, .bool false, .ref z.heap.objs.size, rawInt 0, .none, .none] }) (z.heap.objs.size + 1) z.heap.objs.size 0 .none := by
    have e := Heap.get?_push_size (z.heap.push { cls := .type "tuple_iterator", data := .fields #[.ref t, .int 0 0] }) (o := { cls := .type "enumerate", data := .fields #[.none, .bool false, .ref z.heap.objs.size, rawInt 0, .none, .none] }) rfl
    rw [sz] at e
    exact e
  exact ⟨⟨_, he, rfl⟩, q _ he ⟨_, Heap.get?_push_of_some _ (Heap.get?_push_size _ rfl), rfl, rfl⟩ fun b o x => Heap.get?_push_of_some _ (Heap.get?_push_of_some _ x)⟩
end PySem
namespace Pv
open PySem L2 PyProof.Rows
/-- the tuple at a, each item in a new pair with its number -/
def IteT (K : PySem.W.Frag) (a : Addr) : It :=
  ⟨fun i H => ∃ (xs : List V) (x : V), SqT K H a xs ∧ xs[i]? = some x, fun i H v H' => ∃ P x, v = .ref P ∧ H P = none ∧ H' = upd H P (.tup [.int (i : Nat), x]) ∧ ∀ xs, SqT K H a xs → xs[i]? = some x, fun i H => ∃ xs : List V, SqT K H a xs ∧ xs.length ≤ i⟩
theorem turn_enumT {P : Program} {w : World} {K : PySem.W.Frag} {elts : List Expr} {kk : Nat} {tpos : Pos} (a e it : Addr) :
    Turn P w K (.Tuple elts kk tpos) (IteT K a) [e, it] e (fun i h => (∃ old, IsEnum h e it ((i : Nat) : Int) old) ∧ h.IsTupleIter it a i ∧ e ≠ it) where
  mem := by simp
  obj := fun i h st b hb => by
    obtain ⟨⟨old, he⟩, ⟨o, ho, hc, hd⟩, _⟩ := st
    rcases (by simpa using hb : b = e ∨ b = it) with z | z
    · rw [z]; exact ⟨_, he, fun v q => nomatch q⟩
    · rw [z]; exact ⟨o, ho, fun v q => by rw [hd] at q; cases q⟩
  keep := fun i h h' st k => by
    obtain ⟨⟨old, he⟩, hi, hne⟩ := st
    exact ⟨⟨old, k e (by simp) _ he⟩, hi.at fun o q => k it (by simp) o q, hne⟩
  item := by
    intro X hP hw hK hc i pins s σ H E I hf st hg
    subst hP hw hK
    obtain ⟨⟨old, he⟩, hit, hne⟩ := st
    obtain ⟨xs, x, hq, hx⟩ := hg
    obtain ⟨its, rv, p, hz⟩ := I.tuple hq
    obtain ⟨u, hu, ru⟩ := rv.get hx
    have tT : s.heap.IsTuple a its.toArray := p
    have ha : a ≠ it := by
      rintro rfl
      obtain ⟨o1, g1, c1, _⟩ := tT
      obtain ⟨o2, g2, c2, _⟩ := hit
      rw [g1] at g2; cases g2
      rw [c1] at c2
      simp at c2
    have hae : e ≠ a := by
      rintro rfl
      obtain ⟨o1, g1, c1, _⟩ := tT
      have g2 := (show s.heap.get? e = some _ from he)
      rw [g1] at g2; cases g2
      simp at c1
    have hel : e < s.heap.objs.size := Heap.lt_size he
    have hil : it < s.heap.objs.size := by obtain ⟨_, q, _⟩ := hit; exact Heap.lt_size q
    have hlt : i < its.toArray.size := by rw [List.size_toArray]; exact (List.getElem?_eq_some_iff.mp hu).1
    have D := Draws.tuple (prog := X.prog) (w := X.w) (A := X.A.in1) (I.ok.hd hc) it a ha its.toArray
    refine wpAny_pyNext_enum_itemD D he ⟨hit, tT⟩ hlt hne (by simp [hne, hae]) fun x' h' tk hx' ho hs' hT hsz hk => ?_
    have ex : x' = u := by
      have hx'' : its.toArray[i]? = some x' := hx'
      rw [List.getElem?_toArray, hu] at hx''
      exact (Option.some.inj hx'').symm
    subst ex
    obtain ⟨hit', tT'⟩ := hs'
    refine ⟨_, rfl, wpAny_letOwnedTupleGo_enum (s := { s with heap := h', toks := tk + 1 }) ho fun h'' he' sb => ?_⟩
    have hT2 : h''.get? s.heap.objs.size = some { cls := .type "tuple", data := .seq #[.int i tk, x'] } := (sb.2 _ (Nat.ne_of_gt hel)).trans hT
    have new : ObjOk X.prog X.w (upd H s.heap.objs.size (.tup [.int (i : Nat), x])) h'' s.heap.objs.size (.tup [.int (i : Nat), x]) :=
      ⟨by show 2 ≤ sizeLine; decide, [.int i tk, x'], .cons ⟨_, rfl⟩ (.cons ru .nil), ⟨_, hT2, rfl, _, rfl⟩⟩
    have I1 : Inv X pins σ (upd H s.heap.objs.size (.tup [.int (i : Nat), x])) { s with heap := h'', toks := tk + 1 } :=
      I.turnedNew (ch := [e, it]) (fun b ob hb q => (sb.2 b (fun z => hb (by simp [z]))).trans (hk b ob (fun z => hb (by simp [z])) (fun z => hb (by simp [z])) q)) hf (Nat.le_refl _) new
    refine ⟨.ref s.heap.objs.size, _, I1, rfl, ⟨_, x, rfl, I.hok.fresh (Nat.le_refl _), rfl, fun ys hy => by rw [I.tuple_inj hy hq]; exact hx⟩, ⟨⟨x', ?_⟩, hit'.at fun o q => (sb.2 it (Ne.symm hne)).trans q, hne⟩, fun b hb => ?_⟩
    · have e1 : ((i + 1 : Nat) : Int) = (i : Int) + 1 := by omega
      rw [e1]; exact he'
    · have hb' : b < s.heap.objs.size := by
        rcases (by simpa using hb : b = e ∨ b = it) with z | z
        · rw [z]; exact hel
        · rw [z]; exact hil
      rw [upd_ne (Nat.ne_of_lt hb')]
      exact (hf b hb).1
  done := by
    intro X hP hw hK hc i pins s σ H E I hf st hg
    subst hP hw hK
    obtain ⟨⟨old, he⟩, hit, hne⟩ := st
    obtain ⟨xs, hq, hx⟩ := hg
    obtain ⟨its, rv, p, hz⟩ := I.tuple hq
    have tT : s.heap.IsTuple a its.toArray := p
    obtain ⟨f0, f1, f2, f3, f4, f5⟩ := hf it (by simp)
    have hl := rv.length
    have hT : s.TypeIs (.ref e) "enumerate" := ⟨_, he, rfl⟩
    unfold pyNext
    refine wpAny_bind (wpAny_attempt (wpAny_callSpecial?_slot (name := Str.ofString "__next__") hT F.slot_enumerate_next (wpAny_call_entry F.slot_enumerate_next hT F.entry_enumerate_next ?_ (F.args_enumerate_next_1 _))))
    show wpAny _ _ (field (.ref e) 2 >>= _) _ _ _
    refine wpAny_bind (wpAny_field he rfl (x := .ref it) rfl ?_)
    refine wpAny_bind (wpAny_nextOf_tuple_end (I.ok.hd hc) hit tT (by rw [List.getElem?_toArray, List.getElem?_eq_none (by omega)]) fun h' x he' hx' => ?_)
    obtain ⟨o, ho, hc⟩ := hx'
    refine wpAny_bind (wpAny_isInstance (T := "StopIteration") (b := true) ⟨o, ho, hc⟩ isSubtype_stop ?_)
    exact wpAny_pure ⟨rfl, I.turned (t' := s.toks) (fun b o hb q => he' b o hb q) f0 f1 f3 f4 f5⟩
  self := fun A i s Q E st h => by
    obtain ⟨⟨_, he⟩, _⟩ := st
    exact wpAny_pyIter_enum he h
def iEnumT (K : PySem.W.Frag) (ta : TA) : TI := fun σ H R => ta σ H fun vs H1 => ∃ a xs, vs = [.ref a] ∧ SqT K H1 a xs ∧ R (IteT K a) H1
theorem pi_enumT {X : Cx} {e : Expr} {ta : TA} {p pos tpos : Pos} {elts : List Expr} {kk : Nat} (hg : Gl X "enumerate") (hm : X.mg "enumerate" = none) (ha : PA X [e] ta) (hs : starEach [e] X.env = [(false, eval e X.env)]) :
    PI X (.Tuple elts kk tpos) (.Call (.Name "enumerate" p) [e] [] pos) (iEnumT X.K ta) := by
  refine ⟨fun pins s σ H R I h => ?_⟩
  refine Call_ (ld_blt I hg hm boot_enumerate (PyProof.Rows.callWith_type1 (thn (ha.run pos pins s σ H _ I h) fun us s1 ⟨vs, H1, I1, r1, a, xs, ex, hq, q⟩ => ?_) hs rfl))
  subst ex
  cases r1 with
  | cons r rr =>
    cases rr
    cases r
    obtain ⟨its, rv, p', hz⟩ := I1.tuple hq
    refine pv_call_enumT (show s1.heap.IsTuple a its.toArray from p') fun h' he hit hk => wpAny_pyIter_enum he ?_
    have I2 : Inv X pins σ H1 { s1 with heap := h' } := I1.kept (t' := s1.toks) hk
    refine ⟨s1.heap.objs.size + 1, [s1.heap.objs.size + 1, s1.heap.objs.size], _, _, H1, rfl, I2, turn_enumT a (s1.heap.objs.size + 1) s1.heap.objs.size, ⟨⟨.none, he⟩, hit, Nat.succ_ne_self _⟩, fun b hb => ?_, q⟩
    have hle : s1.heap.objs.size ≤ b := by
      rcases (by simpa using hb : b = s1.heap.objs.size + 1 ∨ b = s1.heap.objs.size) with z | z
      · rw [z]; exact Nat.le_add_right _ _
      · rw [z]; exact Nat.le_refl _
    exact I1.fpOk hle (I1.hok.fresh hle)
end Pv
set_option Elab.async false
set_option linter.all false
set_option maxRecDepth 100000
set_option maxHeartbeats 2000000
/-! Pv part T: enumerate, dicts. -/
namespace Pv
open PySem L2
def enumL : Nat → List T → List T
  | _, [] => []
  | k, t :: ts => .tup [.int (k : Nat), t] :: enumL (k + 1) ts
theorem enumL_get : ∀ (ts : List T) (k i : Nat), (enumL k ts)[i]? = (ts[i]?).map fun t => .tup [.int ((k + i : Nat) : Int), t]
  | [], k, i => by simp [enumL]
  | t :: ts, k, 0 => by simp [enumL]
  | t :: ts, k, i + 1 => by
    simp only [enumL, List.getElem?_cons_succ]
    rw [enumL_get ts (k + 1) i, show k + 1 + i = k + (i + 1) by omega]
theorem enumL_len : ∀ (ts : List T) (k : Nat), (enumL k ts).length = ts.length
  | [], _ => rfl
  | t :: ts, k => by simp only [enumL, List.length_cons, enumL_len ts (k + 1)]
theorem pair_rep {K : PySem.W.Frag} {H : Hp} {P : Addr} {i : Int} {t : T} {v : V} (hp : H P = none) (r : Rep K H t v []) :
    (∀ a o, H a = some o → upd H P (.tup [.int i, v]) a = some o) ∧ Rep K (upd H P (.tup [.int i, v])) (.tup [.int i, t]) (.ref P) [] := by
  have k : ∀ a o, H a = some o → upd H P (.tup [.int i, v]) a = some o := fun a o e => by rw [upd_ne (ne_of_none e hp)]; exact e
  exact ⟨k, P, [.int i, v], rfl, upd_same, .int i, [v], [], [], rfl, rfl, ⟨rfl, rfl⟩, v, [], [], [], rfl, rfl, r.ext k, rfl, rfl⟩
theorem serves_enumT {K : PySem.W.Frag} {G : Addr → Prop} {H : Hp} {a : Addr} {ts : List T} {vs : List V} (r : Reps K H ts vs []) (lo : Lists G H) (sq : H a = some (.tup vs)) : Serves K (IteT K a) (enumL 0 ts) G H false := by
  intro i H2 kp
  have kp' : Keep G H H2 := by simpa using kp
  have sq := SqT.of (K := K) (tup_keep kp' lo sq)
  have r2 : Reps K H2 ts vs [] := r.keep kp' lo (fun _ z => by cases z)
  refine ⟨fun t ht => ?_, fun h => ⟨vs, sq, by rw [r.len, ← enumL_len ts 0]; exact h⟩⟩
  rw [enumL_get] at ht
  cases hg : ts[i]? with
  | none => rw [hg] at ht; cases ht
  | some u =>
    rw [hg] at ht
    cases ht
    obtain ⟨v, hv, rv⟩ := reps_at r2 hg
    refine ⟨⟨vs, v, sq, hv⟩, fun x H3 y => ?_⟩
    obtain ⟨P, x', rfl, hp, rfl, y⟩ := y
    have z := y vs sq
    rw [hv] at z
    cases z
    rw [Nat.zero_add]
    exact pair_rep hp rv
theorem serves_enumL {K : PySem.W.Frag} {G : Addr → Prop} {H : Hp} {a : Addr} {ts : List T} {vs : List V} {w : Bool} (r : Reps K H ts vs []) (lo : Lists G H) (st : ∀ H2, Keep (if w = true then fun _ => False else G) H H2 → SqL K H2 a vs) : Serves K (Ite K a) (enumL 0 ts) G H w := by
  intro i H2 kp
  have sq := st H2 kp
  have r2 : Reps K H2 ts vs [] := by
    cases w with
    | true => exact r.ext fun a o z => kp a o z (fun z => by simp at z)
    | false => exact r.keep kp (by simpa using lo) (fun _ z => by cases z)
  refine ⟨fun t ht => ?_, fun h => ⟨vs, sq, by rw [r.len, ← enumL_len ts 0]; exact h⟩⟩
  rw [enumL_get] at ht
  cases hg : ts[i]? with
  | none => rw [hg] at ht; cases ht
  | some u =>
    rw [hg] at ht
    cases ht
    obtain ⟨v, hv, rv⟩ := reps_at r2 hg
    refine ⟨⟨vs, v, sq, hv⟩, fun x H3 y => ?_⟩
    obtain ⟨P, x', rfl, hp, rfl, y⟩ := y
    have z := y vs sq
    rw [hv] at z
    cases z
    rw [Nat.zero_add]
    exact pair_rep hp rv
def enumI (ρ : Rho) (o : O) : Option (List T × Bool) := match getO ρ o with
  | some (.tup ts) => if T.imms ts = true then some (enumL 0 ts, false) else none
  | some (.lst ts) => if T.imms ts = true then some (enumL 0 ts, !o.isV) else none
  | _ => none
def isTup : Expr → Bool
  | .Tuple _ _ _ => true
  | _ => false
def iEnumr (a : Ex) : Ix where
  sem := iLift a.sem enumI
  m := fun N sc cm tg e => match tg, e with
    | .Tuple _ _ _, .Call (.Name y _) [e] [] _ => decide (y = "enumerate") && (glB sc y && (notStar e && a.m N sc cm e))
    | _, _ => false
  pre := fun Γ k => Γ.mg "enumerate" = none ∧ a.pre Γ k
  snd := fun {X xi N sc lvl cm W tg e} g p h => by
    split at h
    · simp only [Bool.and_eq_true, decide_eq_true_eq] at h
      obtain ⟨rfl, h1, h2, h3⟩ := h
      have G := gl_of g.hsc h1
      have pa := a.snd g p.2 h3
      refine ⟨_, PI.or (pi_enumT G.gl p.1 (pa_cons pa pa_nil (starEach_of h2)) (starEach_of h2)) (pi_enum G.gl p.1 (pa_cons pa pa_nil (starEach_of h2)) (starEach_of h2)), fun σ H R hq => ?_⟩
      obtain ⟨ρ, fp, e0, hq⟩ := hq
      simp only [iLift] at hq
      cases hs : a.sem ρ with
      | stuck => rw [hs] at hq; exact hq.elim
      | ex c t ρ' =>
        rw [hs] at hq
        exact .inl ⟨ρ, fp, e0, by rw [hs]; exact hq⟩
      | ok o ρ' τ =>
        rw [hs] at hq
        simp only at hq
        cases hg : getO ρ' o with
        | none => simp only [enumI, hg] at hq
        | some t =>
          cases t with
          | tup ts =>
            by_cases c : T.imms ts = true
            case neg => simp only [enumI, hg, if_neg c] at hq
            simp only [enumI, hg, if_pos c] at hq
            refine .inl ⟨ρ, fp, e0, ?_⟩
            rw [hs]
            intro v H' fp' fo e' s' q' r'
            obtain ⟨f, rf, _⟩ := r'.get e' hg
            obtain ⟨b, vs, rfl, sq, rs⟩ := rf
            have z := rs.imm_nil c
            subst z
            exact ⟨b, vs, rfl, SqT.of sq, hq _ H' fp' e' s'.drop q' (serves_enumT rs e'.own sq)⟩
          | lst ts =>
            by_cases c : T.imms ts = true
            case neg => simp only [enumI, hg, if_neg c] at hq
            simp only [enumI, hg, if_pos c] at hq
            refine .inr ⟨ρ, fp, e0, ?_⟩
            rw [hs]
            intro v H' fp' fo e' s' q' r'
            obtain ⟨f, rf, iv⟩ := r'.get e' hg
            obtain ⟨b, vs, g', rfl, ef, sq, rs⟩ := rf
            have z := rs.imm_nil c
            subst z
            refine ⟨b, vs, rfl, SqL.of sq, hq _ H' fp' e' s'.drop q' (serves_enumL rs e'.own fun H2 kp => ?_)⟩
            cases o with
            | p i q => exact SqL.of (kp b _ sq (by simp [O.isV]))
            | v t =>
              have hfo : b ∈ fo := by
                have := (iv.2 rfl)
                rw [← this, ef]
                exact List.mem_cons_self
              refine SqL.of (kp b _ sq ?_)
              simp only [O.isV, Bool.not_true, Bool.false_eq_true, if_false]
              exact fun z => s'.dj b hfo z
          | _ => simp only [enumI, hg] at hq
    · cases h
end Pv
set_option Elab.async false
set_option linter.all false
set_option maxRecDepth 100000
set_option maxHeartbeats 2000000
/-! Pv part U: dicts, fields. -/
namespace Pv
open PySem L2
/-! ### {} -/
theorem new_dic {K : PySem.W.Frag} {H : Hp} {kd : Bool} {fo : List Addr} {Q : V → Hp → Prop} {p : Addr} {o : HO} (ho : o = if kd = true then .dT [] else .dK []) (hp : H p = none) (h : PureRes K H fo (.dct kd [] []) Q) : Q (.ref p) (upd H p o) := by
  have k : ∀ a u, H a = some u → upd H p o a = some u := fun a u e => by rw [upd_ne (ne_of_none e hp)]; exact e
  refine h (.ref p) _ [p] k ⟨p, [], [], rfl, rfl, ?_, rfl, rfl⟩ (fun a z => .inr (by rw [List.mem_singleton.mp z]; exact hp)) (by simp)
  cases kd with
  | false => subst ho; exact ⟨[], upd_same, rfl, rfl⟩
  | true => subst ho; exact ⟨[], upd_same, rfl, rfl⟩
def eDict0 (kd : Bool) : Ex where
  sem := opSem [] fun _ _ => some (.dct kd [] [])
  m := fun N sc cm e => match e with
    | .Dict [] [] _ => true
    | _ => false
  pre := fun _ _ => True
  snd := fun {X xi N sc lvl cm W x} g p h => by
    split at h
    · cases kd with
      | false =>
        refine PE.to pe_dnewK fun σ H Q hq => ?_
        exact op_to (ss := []) (r := fun _ H Q => ∀ p, H p = none → Q (.ref p) (upd H p (.dK []))) (fun ρ fp σ H os vs fo t e o nd hf Q pr p hp => by
          cases hf
          exact new_dic (kd := false) rfl hp pr) hq
      | true =>
        refine PE.to pe_dnewT fun σ H Q hq => ?_
        exact op_to (ss := []) (r := fun _ H Q => ∀ p, H p = none → Q (.ref p) (upd H p (.dT []))) (fun ρ fp σ H os vs fo t e o nd hf Q pr p hp => by
          cases hf
          exact new_dic (kd := true) rfl hp pr) hq
    · cases h
/-! ### d[k] -/
def dgetT : T → T → Option T
  | .dct kd ks vs, s => match dk? kd s with
    | some k => match dix kd ks k with
      | some j => match vs[j]? with
        | some t => if t.imm = true then some t else none
        | none => none
      | none => none
    | none => none
  | _, _ => none
theorem dget_ok {K : PySem.W.Frag} {H : Hp} {s t u : T} {x y : V} {fx fy : List Addr} (hg : dgetT s t = some u) (rx : Rep K H s x fx) (ry : Rep K H t y fy) : ∃ a v, x = .ref a ∧ DGet H a y (some v) ∧ Rep K H u v [] := by
  cases s <;> first | (simp [dgetT] at hg; done) | skip
  rename_i kd ks vs
  simp only [dgetT] at hg
  cases ek : dk? kd t with
  | none => rw [ek] at hg; cases hg
  | some k =>
    rw [ek] at hg
    simp only at hg
    cases ej : dix kd ks k with
    | none => rw [ej] at hg; cases hg
    | some j =>
      rw [ej] at hg
      simp only at hg
      cases ev : vs[j]? with
      | none => rw [ev] at hg; cases hg
      | some w =>
        rw [ev] at hg
        simp only at hg
        split at hg
        · rename_i c
          cases hg
          obtain ⟨a, ws, g, rfl, _, d, r⟩ := rx
          obtain ⟨v, f1, g', f2, hv, _, rv, _, _⟩ := Reps.get r ev
          have z := rv.imm_nil c
          subst z
          have dg := dget_rep d ek ry
          rw [ej, Option.bind_some, hv] at dg
          exact ⟨a, v, rfl, dg, rv⟩
        · cases hg
def eDIx (o i : Ex) : Ex where
  sem := opSem [o.sem, i.sem] (f2 dgetT)
  m := fun N sc cm e => match e with
    | .Subscript x y _ => notSlice y && (o.m N sc cm x && i.m N sc cm y)
    | _ => false
  pre := fun Γ k => o.pre Γ k ∧ i.pre Γ k
  snd := fun {X xi N sc lvl cm W x} g p h => by
    split at h
    · simp only [Bool.and_eq_true] at h
      refine PE.to (pe_dget (by have := g.un; omega) (o.snd g p.1 h.2.1) (i.snd g p.2 h.2.2) (plainIx_of h.1)) fun σ H Q hq => ?_
      exact op_to (ss := [o.sem, i.sem]) (r := fun vs H Q => match vs with | [x, y] => ∃ a v, x = .ref a ∧ DGet H a y (some v) ∧ Q v H | _ => False) (ok2 fun H s t u x y fx fy hg rx ry Q p => by
        obtain ⟨a, v, e, d, r⟩ := dget_ok hg rx ry
        exact ⟨a, v, e, d, p.v r⟩) hq
    · cases h
/-! ### fields -/
def fldAt : List Str → List T → Str → Option T
  | n :: ns, t :: ts, f => if n = f then some t else fldAt ns ts f
  | _, _, _ => none
theorem fld_rep {K : PySem.W.Frag} {H : Hp} : ∀ {ns : List Str} {ts : List T} {ws : List V} {f : Str} {t : T} {g : List Addr}, fldAt ns ts f = some t → Reps K H ts ws g → t.imm = true → ∃ v, (ns.zip ws).lookup f = some v ∧ Rep K H t v []
  | [], _, _, _, _, _, h, _, _ => by cases h
  | n :: ns, [], _, _, _, _, h, _, _ => by cases h
  | n :: ns, t :: ts, _, f, u, _, h, r, im => by
    obtain ⟨v, ws, f1, f2, rfl, rfl, h1, h2⟩ := r
    simp only [fldAt] at h
    split at h
    · rename_i c
      cases h
      subst c
      have z := h1.imm_nil im
      subst z
      exact ⟨v, by simp [List.lookup], h1⟩
    · rename_i c
      obtain ⟨w, e, rw'⟩ := fld_rep h h2 im
      refine ⟨w, ?_, rw'⟩
      rw [List.zip_cons_cons, List.lookup_cons, show (f == n) = false by simpa using fun z => c z.symm]
      exact e
def fldT (cn f : Str) : T → Option T
  | .obj c ns fs => if c = cn then match fldAt ns fs f with
    | some t => if t.imm = true then some t else none
    | none => none else none
  | .mob c ns fs => if c = cn then match fldAt ns fs f with
    | some t => if t.imm = true then some t else none
    | none => none else none
  | _ => none
/-- the class, and that it has no such name -/
def ClsF (K : PySem.W.Frag) (cn f : Str) : Prop := ∃ C, ClsAt K cn C ∧ Cls K C ∧ NoAttr K C f
theorem clsAt_inj {K : PySem.W.Frag} {cn : Str} {C D : Addr} (h : ClsAt K cn C) (h2 : ClsAt K cn D) : C = D := by
  unfold ClsAt at h h2
  rw [h] at h2
  cases h2
  rfl
def rFld (K : PySem.W.Frag) (f : Str) : V → Hp → VK → Prop := fun x H Q => ∃ a C dx fs v, x = .ref a ∧ H a = some (.ins C dx fs) ∧ Cls K C ∧ NoAttr K C f ∧ fs.lookup f = some v ∧ Q v H
def eFld (cn f : Str) (a : Ex) : Ex where
  sem := opSem [a.sem] (f1 (fldT cn f))
  m := fun N sc cm e => match e with
    | .Attribute x y _ => decide (y = f) && (notCall0 x && a.m N sc cm x)
    | _ => false
  pre := fun Γ k => ClsF Γ.K cn f ∧ a.pre Γ k
  snd := fun {X xi N sc lvl cm W x} g p h => by
    split at h
    · simp only [Bool.and_eq_true, decide_eq_true_eq] at h
      obtain ⟨rfl, h0, h1⟩ := h
      obtain ⟨⟨C, c1, c2, c3⟩, pa⟩ := p
      refine PE.to (pe_fld (a.snd g pa h1) (base_of h0)) fun σ H Q hq => op_to (r := ru (rFld X.K _)) (ok1 fun H s u x fx hg rx Q p => ?_) hq
      show rFld X.K _ x H Q
      cases s <;> first | (simp [fldT] at hg; done) | skip
      · rename_i cn' ns fs
        simp only [fldT] at hg
        split at hg
        · rename_i ec
          subst ec
          obtain ⟨a', C', dx, ws, rfl, hc, ha, hn, hd, r⟩ := rx
          cases ef : fldAt ns fs _ with
          | none => rw [ef] at hg; cases hg
          | some t =>
            rw [ef] at hg
            simp only at hg
            split at hg
            · rename_i im
              cases hg
              obtain ⟨v, e, rv⟩ := fld_rep ef r im
              have := clsAt_inj c1 hc
              subst this
              exact ⟨a', C, dx, _, v, rfl, ha, c2, c3, e, p.v rv⟩
            · cases hg
        · cases hg
      · rename_i cn' ns fs
        simp only [fldT] at hg
        split at hg
        · rename_i ec
          subst ec
          obtain ⟨a', C', dx, ws, g', rfl, _, hc, ha, hn, hd, r⟩ := rx
          cases ef : fldAt ns fs _ with
          | none => rw [ef] at hg; cases hg
          | some t =>
            rw [ef] at hg
            simp only at hg
            split at hg
            · rename_i im
              cases hg
              obtain ⟨v, e, rv⟩ := fld_rep ef r im
              have := clsAt_inj c1 hc
              subst this
              exact ⟨a', C, dx, _, v, rfl, ha, c2, c3, e, p.v rv⟩
            · cases hg
        · cases hg
    · cases h
end Pv
set_option Elab.async false
set_option linter.all false
set_option maxRecDepth 100000
set_option maxHeartbeats 2000000
/-! Pv part V: stores into dicts and fields. -/
namespace Pv
open PySem L2
theorem spF3 {K : PySem.W.Frag} {xi : XI} {φ : List T → FR} {vs : List V} {H : Hp} {Q : VK} {E : XK} (h : spF K xi 3 φ vs H Q E) : ∃ t s u y x z fp, vs = [y, x, z] ∧ Env K [some t, some s, some u] fp [some y, some x, some z] H ∧ postF K xi [y, x, z] fp H Q E (φ [t, s, u]) ∧ Rep K H t y (fp 0) ∧ Rep K H s x (fp 1) ∧ Rep K H u z (fp 2) := by
  obtain ⟨ts, fp, hl, e, h⟩ := h
  rcases ts with _ | ⟨t, _ | ⟨s, _ | ⟨u, _ | ⟨w, ts⟩⟩⟩⟩ <;> simp at hl
  have hv : vs.length = 3 := by simpa using e.len
  rcases vs with _ | ⟨y, _ | ⟨x, _ | ⟨z, _ | ⟨z', vs⟩⟩⟩⟩ <;> simp at hv
  obtain ⟨y', hy, r2⟩ := e.rep 0 t rfl
  obtain ⟨x', hx, r1⟩ := e.rep 1 s rfl
  obtain ⟨z', hz, r3⟩ := e.rep 2 u rfl
  have e1 : y = y' := by simpa using hy
  have e2 : x = x' := by simpa using hx
  have e3 : z = z' := by simpa using hz
  subst e1 e2 e3
  exact ⟨t, s, u, y, x, z, fp, rfl, e, h, r2, r1, r3⟩
theorem lists_chg {H : Hp} {a : Addr} {o : HO} (h : H a = some o) (c : Chg o) : Lists (· = a) H := fun b e => ⟨o, by rw [e]; exact h, c⟩
/-- behind a store into the thing at a, which alone the second argument owns -/
theorem store_env {K : PySem.W.Frag} {H : Hp} {t s u s' : T} {y x z : V} {fp : Fp} {a : Addr} {o o' : HO} {g : List Addr} (e : Env K [some t, some s, some u] fp [some y, some x, some z] H) (ha : H a = some o) (ca : Chg o)
    (im : t.imm = true) (imu : u.imm = true) (hg : ∀ b ∈ g, b ∈ fp 1) (af : a ∈ fp 1) (nd : g.Nodup) (R : Rep K (upd H a o') s' x g) :
    Env K [some t, some s', some u] (fun j => if j = 1 then g else []) [some y, some x, some z] (upd H a o') ∧ Step fp H (fun j => if j = 1 then g else []) [] (upd H a o') := by
  obtain ⟨y', hy, r0⟩ := e.rep 0 t rfl
  obtain ⟨z', hz, r2⟩ := e.rep 2 u rfl
  have e1 : y = y' := by simpa using hy
  have e3 : z = z' := by simpa using hz
  subst e1 e3
  have i0 := r0.imm_nil im
  have i2 := r2.imm_nil imu
  have kp : Keep (· = a) H (upd H a o') := upd_keep
  have lo := lists_chg ha ca
  refine ⟨⟨rfl, fun j w hj => ?_, fun j hj => ?_, fun j => ?_, fun j k b h1 h2 => ?_⟩, ⟨fun b u hb hn => by rw [upd_ne (fun z => hn (by rw [z]; exact ⟨1, af⟩))]; exact hb, fun b hb => .inl ?_, .nil, fun _ hb => by cases hb⟩⟩
  · rcases j with _ | _ | _ | j
    · cases hj
      exact ⟨y, rfl, Rep.keep kp lo (fun b hb => by cases hb) (i0 ▸ r0)⟩
    · cases hj
      exact ⟨x, rfl, by simpa using R⟩
    · cases hj
      exact ⟨z, rfl, Rep.keep kp lo (fun b hb => by cases hb) (i2 ▸ r2)⟩
    · simp at hj
  · by_cases c : j = 1
    · subst c; exact absurd rfl (hj _)
    · simp [c]
  · by_cases c : j = 1
    · simp only [if_pos c]; exact nd
    · simp only [if_neg c]; exact .nil
  · by_cases c : j = 1
    · by_cases c' : k = 1
      · rw [c, c']
      · simp only [if_neg c'] at h2; cases h2
    · simp only [if_neg c] at h1; cases h1
  · rcases hb with ⟨j, hb⟩ | hb
    · by_cases c : j = 1
      · simp only [if_pos c] at hb; exact ⟨1, hg b hb⟩
      · simp only [if_neg c] at hb; cases hb
    · cases hb
/-! ### d[k] = v -/
def dputV (kd : Bool) (k : List Key) (t : T) : List T → List T → List T
  | kt :: ks, v :: vs => (if dk? kd kt = some k then t else v) :: dputV kd k t ks vs
  | _, vs => vs
def dputD (kd : Bool) (k : List Key) (s t : T) (ks vs : List T) : T := if (dix kd ks k).isSome = true then .dct kd ks (dputV kd k t ks vs) else .dct kd (ks ++ [s]) (vs ++ [t])
def dputF : List T → FR
  | [t, .dct kd ks vs, s] => match dk? kd s with
    | some k => if t.imm = true ∧ T.imms vs = true ∧ s.imm = true ∧ ks.length < sizeLine then .ok .non [some t, some (dputD kd k s t ks vs), some s] else .stuck
    | none => .stuck
  | _ => .stuck
theorem reps_imm {K : PySem.W.Frag} {H : Hp} : ∀ {ts : List T} {vs : List V} {f : List Addr}, T.imms ts = true → Reps K H ts vs f → Reps K H ts vs [] := fun im r => by have := r.imm_nil im; subst this; exact r
theorem any_isSome {κ : Type} [DecidableEq κ] (k : κ) (kvs : List (κ × V)) : (kvs.any fun kv => decide (kv.1 = k)) = ((kvs.map (·.1)).findIdx? fun x => decide (x = k)).isSome := by
  induction kvs with
  | nil => rfl
  | cons p r ih =>
    simp only [List.any_cons, List.map_cons, List.findIdx?_cons]
    by_cases h : p.1 = k
    · simp [h]
    · simp only [decide_eq_false h, Bool.false_or, Bool.false_eq_true, if_false, Option.isSome_map]
      exact ih
theorem key_inv {s : T} {k : Key} (h : key? s = some k) : s = keyT k := by cases s <;> cases h <;> rfl
theorem keyL_inv : ∀ {ts : List T} {k : List Key}, keyL? ts = some k → ts = k.map keyT
  | [], _, h => by cases h; rfl
  | t :: ts, k, h => by
    simp only [keyL?] at h
    cases e1 : key? t with
    | none => rw [e1] at h; cases h
    | some a =>
      cases e2 : keyL? ts with
      | none => rw [e1, e2] at h; cases h
      | some b => rw [e1, e2] at h; cases h; rw [key_inv e1, keyL_inv e2]; rfl
section
variable {K : PySem.W.Frag} {H : Hp}
theorem put_reps {κ : Type} [DecidableEq κ] {kd : Bool} {f : κ → T} {k : κ} {dk : List Key} (hf : ∀ x : κ, decide (dk? kd (f x) = some dk) = decide (x = k)) {t : T} {y : V} (ry : Rep K H t y []) : ∀ {kvs : List (κ × V)} {vs : List T}, Reps K H vs (kvs.map (·.2)) [] →
    Reps K H (dputV kd dk t (kvs.map fun p => f p.1) vs) ((kvs.map fun kv => if kv.1 = k then (kv.1, y) else kv).map (·.2)) []
  | [], vs, r => by
    cases vs with
    | nil => exact ⟨rfl, rfl⟩
    | cons v vs =>
      obtain ⟨_, _, _, _, e, _⟩ := r
      cases e
  | (x, w) :: kvs, [], r => by
    have e := r.1
    cases e
  | (x, w) :: kvs, v :: vs, r => by
    obtain ⟨w', ws, f1, f2, e, ef, r1, r2⟩ := r
    simp only [List.map_cons, List.cons.injEq] at e
    obtain ⟨rfl, rfl⟩ := e
    have ef' := ef.symm
    simp only [List.append_eq_nil_iff] at ef'
    obtain ⟨rfl, rfl⟩ := ef'
    have ih := put_reps hf ry r2
    simp only [List.map_cons, dputV]
    have hx := hf x
    by_cases c : x = k
    · rw [decide_eq_true c] at hx
      rw [if_pos c, if_pos (of_decide_eq_true hx)]
      exact ⟨y, _, [], [], rfl, rfl, ry, ih⟩
    · rw [decide_eq_false c] at hx
      rw [if_neg c, if_neg (of_decide_eq_false hx)]
      exact ⟨w, _, [], [], rfl, rfl, r1, ih⟩
theorem put_keys {κ : Type} [DecidableEq κ] {k : κ} {y : V} (kvs : List (κ × V)) : (kvs.map fun kv => if kv.1 = k then (kv.1, y) else kv).map (·.1) = kvs.map (·.1) := by
  rw [List.map_map]
  refine List.map_congr_left fun p _ => ?_
  simp only [Function.comp_apply]
  split <;> rfl
theorem put_core {κ : Type} [DecidableEq κ] {kd : Bool} {f : κ → T} {k : κ} {dk : List Key} (hf : ∀ x : κ, decide (dk? kd (f x) = some dk) = decide (x = k)) {kvs : List (κ × V)} {ts : List T} {t : T} {y : V} (r : Reps K H ts (kvs.map (·.2)) []) (ry : Rep K H t y []) :
    ∃ ks' vs', dputD kd dk (f k) t (kvs.map fun p => f p.1) ts = .dct kd ks' vs' ∧ ((putK kvs k y).map fun p => f p.1) = ks' ∧ Reps K H vs' ((putK kvs k y).map (·.2)) [] := by
  have ei : (dix kd (kvs.map fun p => f p.1) dk).isSome = (kvs.any fun kv => decide (kv.1 = k)) := by
    rw [any_isSome]
    unfold dix
    rw [List.findIdx?_map, List.findIdx?_map]
    congr 2
    funext p
    exact hf p.1
  unfold dputD
  rw [ei]
  by_cases q : (kvs.any fun kv => decide (kv.1 = k)) = true
  · rw [if_pos q]
    have P : putK kvs k y = kvs.map fun kv => if kv.1 = k then (kv.1, y) else kv := if_pos q
    refine ⟨_, _, rfl, ?_, by rw [P]; exact put_reps hf ry r⟩
    rw [P, List.map_map]
    refine List.map_congr_left fun p _ => ?_
    simp only [Function.comp_apply]
    split <;> rfl
  · rw [if_neg q]
    have P : putK kvs k y = kvs ++ [(k, y)] := if_neg q
    refine ⟨_, _, rfl, by rw [P, List.map_append]; rfl, ?_⟩
    rw [P, List.map_append]
    have := Reps.append r (Reps.one ry)
    simpa using this
end
theorem dput_ok (X : Cx) (xi : XI) : ∀ vs H Q E, spF X.K xi 3 dputF vs H Q E → (match vs with | [v, x, y] => ∃ a H4, x = .ref a ∧ DPut H a y v H4 ∧ Q .non H4 | _ => False) := by
  intro vs H Q E h
  obtain ⟨t, s, u, y, x, z, fp, rfl, e, h, r2, r1, r3⟩ := spF3 h
  cases s <;> first | exact (show False from h).elim | skip
  rename_i kd ks ts
  simp only [dputF] at h
  cases ek : dk? kd u with
  | none => rw [ek] at h; exact h.elim
  | some k =>
    rw [ek] at h
    simp only at h
    by_cases c : t.imm = true ∧ T.imms ts = true ∧ u.imm = true ∧ ks.length < sizeLine
    case neg => rw [if_neg c] at h; exact h.elim
    rw [if_pos c] at h
    obtain ⟨c1, c2, c3, c4⟩ := c
    obtain ⟨a, ws, g, rfl, ef, d, r⟩ := r1
    have r := reps_imm c2 r
    have ry := r2.imm_nil c1
    rw [ry] at r2
    have af : a ∈ fp 1 := by rw [ef]; exact List.mem_cons_self
    cases kd with
    | false =>
      obtain ⟨kvs, ha, rfl, rfl⟩ := d
      have lo := lists_chg ha (show Chg (.dK kvs) from True.intro)
      simp only [dk?] at ek
      cases e1 : key? u with
      | none => rw [e1] at ek; cases ek
      | some k0 =>
        rw [e1] at ek
        cases ek
        have hz := key_rep e1 r3
        refine ⟨a, _, rfl, .inl ⟨kvs, k0, ha, hz, by simpa using c4, rfl⟩, ?_⟩
        obtain ⟨ks', vs', q1, q2, q3⟩ := put_core (kd := false) (f := keyT) (k := k0) (dk := [k0]) (fun x => by simp only [dk?, key_keyT, Option.map_some, Option.some.injEq, List.cons.injEq, and_true]) r r2
        rw [key_inv e1, q1] at h
        have R : Rep X.K (upd H a (.dK (putK kvs k0 y))) (.dct false ks' vs') (.ref a) [a] := ⟨a, _, [], rfl, rfl, ⟨_, upd_same, q2, rfl⟩, q3.keep upd_keep lo (fun _ z => by cases z)⟩
        obtain ⟨e', s'⟩ := store_env e ha True.intro c1 c3 (g := [a]) (fun b hb => by rw [List.mem_singleton.mp hb]; exact af) af (by simp) R
        rw [key_inv e1] at e'
        exact h .non _ _ [] e' s' ⟨rfl, rfl⟩
    | true =>
      obtain ⟨kvs, ha, rfl, rfl⟩ := d
      have lo := lists_chg ha (show Chg (.dT kvs) from True.intro)
      cases u <;> first | (simp [dk?] at ek; done) | skip
      rename_i us
      simp only [dk?] at ek
      have eu := keyL_inv ek
      obtain ⟨b, vs, rfl, hb, rs⟩ := id r3
      rw [keyL_reps ek rs] at hb
      refine ⟨a, _, rfl, .inr ⟨kvs, k, b, ha, rfl, hb, by simpa using c4, rfl⟩, ?_⟩
      obtain ⟨ks', vs', q1, q2, q3⟩ := put_core (kd := true) (f := fun l => T.tup (l.map keyT)) (k := k) (dk := k) (fun x => by simp only [dk?, keyL_keyT, Option.some.injEq]) r r2
      subst eu
      rw [q1] at h
      have R : Rep X.K (upd H a (.dT (putK kvs k y))) (.dct true ks' vs') (.ref a) [a] := ⟨a, _, [], rfl, rfl, ⟨_, upd_same, q2, rfl⟩, q3.keep upd_keep lo (fun _ z => by cases z)⟩
      obtain ⟨e', s'⟩ := store_env e ha True.intro c1 c3 (g := [a]) (fun b hb => by rw [List.mem_singleton.mp hb]; exact af) af (by simp) R
      exact h .non _ _ [] e' s' ⟨rfl, rfl⟩
def sDSet (o i a : Ex) : Sx where
  sem := effS (effSem 3 [a.sem, o.sem, i.sem] dputF)
  asg := []
  m := fun N sc cm s => match s with
    | .Assign [.Subscript x y _] z _ => notSlice y && (o.m N sc cm x && (i.m N sc cm y && a.m N sc cm z))
    | _ => false
  pre := fun Γ k => o.pre Γ k ∧ i.pre Γ k ∧ a.pre Γ k
  snd := fun {X xi N sc lvl cm W x} g p h => by
    split at h
    · simp only [Bool.and_eq_true] at h
      obtain ⟨h0, h1, h2, h3⟩ := h
      rename_i x y p1 z p2
      have hsw : swapsWith z (some (.Subscript x y p1)) p2.line X.env = pure false := by cases z <;> rfl
      refine PS.to (ps_dput (by have := g.un; omega) (o.snd g.toGd p.1 h1) (i.snd g.toGd p.2.1 h2) (a.snd g.toGd p.2.2 h3) hsw) fun D σ H hq => ?_
      exact eff_to (r := fun _ vs H Q => match vs with | [v, x, y] => ∃ a H4, x = .ref a ∧ DPut H a y v H4 ∧ Q .non H4 | _ => False) (fun vs H Q z => dput_ok X xi vs H Q _ z) (tE.nx hq)
    · cases h
end Pv
set_option Elab.async false
set_option linter.all false
set_option maxRecDepth 100000
set_option maxHeartbeats 2000000
/-! Pv part W: stores into fields, methods, new instances. -/
namespace Pv
open PySem L2
/-! ### self.f = e, f a new field -/
theorem putF_new (f : Str) (v : V) : ∀ (fs : List (Str × V)), (fs.map (·.1)).contains f = false → putF f v fs = fs ++ [(f, v)]
  | [], _ => rfl
  | (g, x) :: r, h => by
    have h' : (g == f) = false ∧ (r.map (·.1)).contains f = false := by
      simp only [List.map_cons, List.contains_cons, Bool.or_eq_false_iff] at h
      exact ⟨by rw [Bool.eq_false_iff] at h ⊢; exact fun z => h.1 (by simpa using (by simpa using z : g = f).symm), h.2⟩
    have hg : ¬ g = f := by simpa using h'.1
    simp only [putF, if_neg hg, List.cons_append, putF_new f v r h'.2]
theorem zip_snoc {α β : Type} : ∀ {l : List α} {m : List β} (a : α) (b : β), l.length = m.length → (l ++ [a]).zip (m ++ [b]) = l.zip m ++ [(a, b)]
  | [], [], a, b, _ => rfl
  | [], _ :: _, a, b, h => by simp at h
  | _ :: _, [], a, b, h => by simp at h
  | x :: l, y :: m, a, b, h => by simp only [List.cons_append, List.zip_cons_cons]; rw [zip_snoc a b (by simpa using h)]
def mkT (cn : Str) (ns : List Str) (fs : List T) : T := if done ns = true then .obj cn ns fs else .mob cn ns fs
def sfldF (cn f : Str) : List T → FR
  | [t, .mob c ns fs] => if c = cn ∧ t.imm = true ∧ T.imms fs = true ∧ ns.contains f = false ∧ ns.length < 900 then .ok .non [some t, some (mkT cn (ns ++ [f]) (fs ++ [t]))] else .stuck
  | _ => .stuck
theorem spF2 {K : PySem.W.Frag} {xi : XI} {φ : List T → FR} {vs : List V} {H : Hp} {Q : VK} {E : XK} (h : spF K xi 2 φ vs H Q E) : ∃ t s y x fp, vs = [y, x] ∧ Env K [some t, some s] fp [some y, some x] H ∧ postF K xi [y, x] fp H Q E (φ [t, s]) ∧ Rep K H t y (fp 0) ∧ Rep K H s x (fp 1) := by
  obtain ⟨ts, fp, hl, e, h⟩ := h
  rcases ts with _ | ⟨t, _ | ⟨s, _ | ⟨u, ts⟩⟩⟩ <;> simp at hl
  have hv : vs.length = 2 := by simpa using e.len
  rcases vs with _ | ⟨y, _ | ⟨x, _ | ⟨z, vs⟩⟩⟩ <;> simp at hv
  obtain ⟨y', hy, r2⟩ := e.rep 0 t rfl
  obtain ⟨x', hx, r1⟩ := e.rep 1 s rfl
  have e1 : y = y' := by simpa using hy
  have e2 : x = x' := by simpa using hx
  subst e1 e2
  exact ⟨t, s, y, x, fp, rfl, e, h, r2, r1⟩
def rSFld (K : PySem.W.Frag) (f : Str) : List V → Hp → (Hp → Prop) → Prop := fun vs H Q => match vs with
  | [y, x] => ∃ a C dx fs, x = .ref a ∧ H a = some (.ins C dx fs) ∧ Cls K C ∧ NoAttr K C f ∧ fs.length < 1000 ∧ Q (upd H a (.ins C dx (putF f y fs)))
  | _ => False
theorem sfld_ok (X : Cx) (xi : XI) {cn f : Str} (c : ClsF X.K cn f) : ∀ vs H Q E, spF X.K xi 2 (sfldF cn f) vs H Q E → rSFld X.K f vs H (fun H' => Q .non H') := by
  intro vs H Q E h
  obtain ⟨t, s, y, x, fp, rfl, e, h, r0, r1⟩ := spF2 h
  cases s <;> first | exact (show False from h).elim | skip
  rename_i c0 ns fs
  simp only [sfldF] at h
  by_cases q : c0 = cn ∧ t.imm = true ∧ T.imms fs = true ∧ ns.contains f = false ∧ ns.length < 900
  case neg => rw [if_neg q] at h; exact h.elim
  rw [if_pos q] at h
  obtain ⟨rfl, q1, q2, q3, q4⟩ := q
  obtain ⟨a, C, dx, ws, g, rfl, ef, hc, ha, hn, hd, r⟩ := r1
  obtain ⟨C', c1, c2, c3⟩ := c
  have := clsAt_inj c1 hc
  subst this
  have lw := r.len
  have r := reps_imm q2 r
  have ry := r0.imm_nil q1
  rw [ry] at r0
  have hk : ((ns.zip ws).map (·.1)) = ns := zip_fst (by rw [lw]; exact hn)
  have ca : Chg (.ins C' dx (ns.zip ws)) := by show done ((ns.zip ws).map (·.1)) = false; rw [hk]; exact hd
  have lo := lists_chg ha ca
  refine ⟨a, C', dx, _, rfl, ha, c2, c3, by rw [List.length_zip]; omega, ?_⟩
  have P : putF f y (ns.zip ws) = (ns ++ [f]).zip (ws ++ [y]) := by
    rw [putF_new f y _ (by rw [hk]; exact q3), zip_snoc f y (by rw [lw]; exact hn)]
  rw [P]
  have af : a ∈ fp 1 := by rw [ef]; exact List.mem_cons_self
  have rs : Reps X.K (upd H a (.ins C' dx ((ns ++ [f]).zip (ws ++ [y])))) (fs ++ [t]) (ws ++ [y]) [] := by
    have := (Reps.append r (Reps.one r0)).keep (upd_keep (o := .ins C' dx ((ns ++ [f]).zip (ws ++ [y])))) lo (fun _ z => by simp at z)
    simpa using this
  have ln : (ns ++ [f]).length = (fs ++ [t]).length := by simp [hn]
  have i0 := r0
  -- the second argument's new tree and what it owns
  have fin : ∀ (g : List Addr), (∀ b ∈ g, b ∈ fp 1) → g.Nodup → Rep X.K (upd H a (.ins C' dx ((ns ++ [f]).zip (ws ++ [y])))) (mkT c0 (ns ++ [f]) (fs ++ [t])) (.ref a) g → Q .non (upd H a (.ins C' dx ((ns ++ [f]).zip (ws ++ [y])))) := fun g hg nd R => by
    have kp : Keep (· = a) H (upd H a (.ins C' dx ((ns ++ [f]).zip (ws ++ [y])))) := upd_keep
    refine h .non _ (fun j => if j = 1 then g else []) [] ⟨rfl, fun j w hj => ?_, fun j hj => ?_, fun j => ?_, fun j k b h1 h2 => ?_⟩ ⟨fun b u hb hn => by rw [upd_ne (fun z => hn (by rw [z]; exact ⟨1, af⟩))]; exact hb, fun b hb => .inl ?_, .nil, fun _ hb => by cases hb⟩ ⟨rfl, rfl⟩
    · rcases j with _ | _ | j
      · cases hj
        exact ⟨y, rfl, Rep.keep kp lo (fun b hb => by cases hb) r0⟩
      · cases hj
        exact ⟨.ref a, rfl, by simpa using R⟩
      · simp at hj
    · by_cases c : j = 1
      · subst c; exact absurd rfl (hj _)
      · simp [c]
    · by_cases c : j = 1
      · simp only [if_pos c]; exact nd
      · simp only [if_neg c]; exact .nil
    · by_cases c : j = 1
      · by_cases c' : k = 1
        · rw [c, c']
        · simp only [if_neg c'] at h2; cases h2
      · simp only [if_neg c] at h1; cases h1
    · rcases hb with ⟨j, hb⟩ | hb
      · by_cases c : j = 1
        · simp only [if_pos c] at hb; exact ⟨1, hg b hb⟩
        · simp only [if_neg c] at hb; cases hb
      · cases hb
  unfold mkT at fin
  by_cases dn : done (ns ++ [f]) = true
  · refine fin [] (fun b hb => by cases hb) .nil ?_
    rw [if_pos dn]
    exact ⟨a, C', dx, _, rfl, hc, upd_same, ln, dn, rs⟩
  · refine fin [a] (fun b hb => by rw [List.mem_singleton.mp hb]; exact af) (by simp) ?_
    rw [if_neg dn]
    exact ⟨a, C', dx, _, [], rfl, rfl, hc, upd_same, ln, by simpa using dn, rs⟩
def sFld' (cn f : Str) (o a : Ex) : Sx where
  sem := effS (effSem 2 [a.sem, o.sem] (sfldF cn f))
  asg := []
  m := fun N sc cm s => match s with
    | .Assign [.Attribute x y _] z _ => decide (y = f) && (o.m N sc cm x && a.m N sc cm z)
    | _ => false
  pre := fun Γ k => ClsF Γ.K cn f ∧ o.pre Γ k ∧ a.pre Γ k
  snd := fun {X xi N sc lvl cm W x} g p h => by
    split at h
    · simp only [Bool.and_eq_true, decide_eq_true_eq] at h
      obtain ⟨rfl, h1, h2⟩ := h
      rename_i x y p1 z p2
      have hsw : swapsWith z (some (.Attribute x y p1)) p2.line X.env = pure false := by cases z <;> rfl
      refine PS.to (ps_fld (o.snd g.toGd p.2.1 h1) (a.snd g.toGd p.2.2 h2) hsw) fun D σ H hq => ?_
      exact eff_to (r := fun _ vs H Q => rSFld X.K _ vs H (fun H' => Q .non H')) (fun vs H Q z => sfld_ok X xi p.1 vs H Q _ z) (tE.nx hq)
    · cases h
end Pv
set_option Elab.async false
set_option linter.all false
set_option maxRecDepth 100000
set_option maxHeartbeats 2000000
/-! Pv part X: methods, new instances. -/
namespace Pv
open PySem L2
/-- what is raised is not told of -/
def noX (φ : List T → FR) (ts : List T) : FR := match φ ts with
  | .ok r ρ => .ok r ρ
  | _ => .stuck
theorem noX_of {K : PySem.W.Frag} {xi : XI} {n : Nat} {φ : List T → FR} {vs : List V} {H : Hp} {Q : VK} {E E' : XK} (h : spF K xi n (noX φ) vs H Q E) : spF K xi n φ vs H Q E' := by
  obtain ⟨ts, fp, hl, e, h⟩ := h
  refine ⟨ts, fp, hl, e, ?_⟩
  unfold noX at h
  cases hs : φ ts with
  | stuck => rw [hs] at h; exact h.elim
  | ex c t ρ => rw [hs] at h; exact h.elim
  | ok r ρ => rw [hs] at h; exact h
/-! ### x.m(args), x a name -/
/-- the method m of the class cn is F -/
def HasM (Γ : Gm) (lvl : Nat) (cn m : Str) (F : Fn) : Prop := ∃ C f fd ps, ClsAt Γ.K cn C ∧ Cls Γ.K C ∧ Meth Γ.K C m f ∧ Binds Γ.K fd ps [] ∧ FnOk Γ.P Γ.w Γ.K Γ.mg Γ.base (L2.CX Γ.P Γ.w) lvl f fd ps (spF Γ.K Γ.xi F.np F.φ)
theorem HasM.mono {Γ : Gm} {j k : Nat} {cn m : Str} {F : Fn} (h : HasM Γ j cn m F) (l : j ≤ k) : HasM Γ k cn m F := by
  obtain ⟨C, f, fd, ps, h1, h2, h3, h4, h5⟩ := h
  exact ⟨C, f, fd, ps, h1, h2, h3, h4, h5.mono l⟩
def isObj (cn m : Str) : Option (Option T) → Bool
  | some (some (.obj c ns _)) => decide (c = cn) && !ns.contains m
  | _ => false
def methSem (cn m : Str) (i n : Nat) (ss : List (Rho → R)) (φ : List T → FR) : Rho → R := fun ρ => if isObj cn m ρ[i]? = true then effSem n (varSem i :: ss) (noX φ) ρ else .stuck
theorem var_use {K : PySem.W.Frag} {xi : XI} {W : WX} {i : Nat} {σ : L2.St} {H : Hp} {Q : V → Hp → Prop} (h : tE K xi W (varSem i) σ H Q) : ∃ v, σ[i]? = some (some v) ∧ Q v H := by
  obtain ⟨ρ, fp, e, h⟩ := h
  unfold varSem at h
  cases hi : ρ[i]? with
  | none => rw [hi] at h; exact h.elim
  | some x =>
    cases x with
    | none => rw [hi] at h; exact h.elim
    | some t =>
      rw [hi] at h
      obtain ⟨v, hv, r⟩ := e.rep i t hi
      refine ⟨v, hv, ?_⟩
      simp only at h
      by_cases c : t.imm = true
      · rw [if_pos c] at h
        refine h v H fp [] e Step.refl (fun _ => Quiet.refl) ?_
        have := r.imm_nil c
        rw [this] at r
        exact r
      · rw [if_neg c] at h
        exact h v H fp [] e Step.refl (fun _ => Quiet.refl) ⟨rfl, v, t, t, fp i, hv, hi, rfl, rfl, rfl, r⟩
theorem lookup_zip_none (m : Str) : ∀ (ns : List Str) (ws : List V), ns.contains m = false → (ns.zip ws).lookup m = none
  | [], _, _ => rfl
  | n :: ns, [], _ => rfl
  | n :: ns, w :: ws, h => by
    simp only [List.contains_cons, Bool.or_eq_false_iff] at h
    rw [List.zip_cons_cons, List.lookup_cons, h.1]
    exact lookup_zip_none m ns ws h.2
theorem meth_to {K : PySem.W.Frag} {xi : XI} {W : WX} {cn m : Str} {i n : Nat} {ss : List (Rho → R)} {φ : List T → FR} {σ : L2.St} {H : Hp} {Q : VK} {C : Addr} (hc : ClsAt K cn C) (h : tE K xi W (methSem cn m i n ss φ) σ H Q) :
    ∃ v, σ[i]? = some (some v) ∧ ∃ a dx fs, v = .ref a ∧ H a = some (.ins C dx fs) ∧ fs.lookup m = none ∧ nest K xi W ss σ H fun vs H2 => spF K xi n φ (v :: (vs ++ [])) H2 Q (fun _ _ _ => False) := by
  obtain ⟨ρ, fp, e, h⟩ := h
  unfold methSem at h
  by_cases c : isObj cn m ρ[i]? = true
  case neg => rw [if_neg c] at h; exact h.elim
  rw [if_pos c] at h
  have z := eff_to (r := fun σ vs H Q => spF K xi n (noX φ) vs H Q (fun cls d H => W cls d σ H)) (fun vs H Q z => z) ⟨ρ, fp, e, h⟩
  obtain ⟨v, hv, q⟩ := var_use (Q := fun v H1 => nest K xi W ss σ H1 fun vs H2 => spF K xi n (noX φ) (v :: vs) H2 Q (fun cls d H => W cls d σ H)) z
  refine ⟨v, hv, ?_⟩
  cases hi : ρ[i]? with
  | none => rw [hi] at c; cases c
  | some x =>
    cases x with
    | none => rw [hi] at c; cases c
    | some t =>
      rw [hi] at c
      cases t <;> first | (cases c; done) | skip
      rename_i c0 ns fs
      simp only [isObj, Bool.and_eq_true, decide_eq_true_eq, Bool.not_eq_true'] at c
      obtain ⟨rfl, c⟩ := c
      obtain ⟨v', hv', r⟩ := e.rep i _ hi
      have ev : v = v' := by rw [hv] at hv'; simpa using hv'
      subst ev
      obtain ⟨a, C', dx, ws, rfl, hc', ha, hn, hd, rs⟩ := r
      have := clsAt_inj hc hc'
      subst this
      refine ⟨a, dx, _, rfl, ha, lookup_zip_none m ns ws c, ?_⟩
      have up : ∀ (ss : List (Rho → R)) (σ : L2.St) (H : Hp) (P P' : List V → Hp → Prop), (∀ vs H, P vs H → P' vs H) → nest K xi W ss σ H P → nest K xi W ss σ H P' := by
        intro ss
        induction ss with
        | nil => intro σ H P P' hp z; exact hp _ _ z
        | cons s ss ih =>
          intro σ H P P' hp z
          obtain ⟨ρ, fp, e, z⟩ := z
          refine ⟨ρ, fp, e, ?_⟩
          cases hs : s ρ with
          | stuck => rw [hs] at z; exact z
          | ex c t ρ' => rw [hs] at z; exact z
          | ok o ρ' τ => rw [hs] at z; exact fun v H' fp' fo e' s' q' r' => ih _ _ _ _ (fun vs H => hp (v :: vs) H) (z v H' fp' fo e' s' q' r')
      refine up ss σ H _ _ (fun vs H2 z => ?_) q
      rw [List.append_nil]
      exact noX_of z
theorem meth_tree {x name : Str} {xp apos pos : Pos} {e : Expr} {es : List Expr} {env : PySem.Env} (hs : noStars (e :: es) = true) (hl : es.length < 28) (hline : (apos.endLine == pos.line) = true) :
    eval (.Call (.Attribute (.Name x xp) name apos) (e :: es) [] pos) env = (do
      let ov ← eval (.Name x xp) env
      standAt apos.atName
      let (f, first) ← holding [ov] (getMethod ov name (do return (← importBound (.Name x xp) env).getD true))
      callWith pos f first (backTo pos (starEach (e :: es) env)) (backToKw pos (keywordEach [] env))) := by
  have h2 : (backTo pos (starEach (e :: es) env)).any (·.1) = false := anyStar_of hs
  have h3 : (backTo pos (starEach (e :: es) env)).all (fun a => !a.1) = true := by
    rw [List.all_eq_true]
    intro a ha
    have := List.any_eq_false.mp h2 a ha
    simpa using this
  have hf : methodCallForm ((e :: es).length + ([] : List Keyword).length) (backTo pos (starEach (e :: es) env)) (backToKw pos (keywordEach [] env)) = true := by
    unfold methodCallForm
    rw [h3]
    have : (backToKw pos (keywordEach [] env)) = [] := rfl
    rw [this]
    simp
    omega
  have hp : methodCallPos true (.Name x xp) env apos pos = pure pos := by
    unfold methodCallPos
    rw [hline]
    rfl
  have hm : ∀ ov, methodCall (.Name x xp) name apos pos env ov ((e :: es).length + ([] : List Keyword).length) (backTo pos (starEach (e :: es) env)) (backToKw pos (keywordEach [] env)) = (do
      let (f, first) ← holding [ov] (getMethod ov name (do return (← importBound (.Name x xp) env).getD true))
      callWith pos f first (backTo pos (starEach (e :: es) env)) (backToKw pos (keywordEach [] env))) := fun ov => by
    unfold methodCall calleeOf
    rw [hf, hp]
    rfl
  show (do
    let ov ← eval (.Name x xp) env
    standAt apos.atName
    methodCall (.Name x xp) name apos pos env ov ((e :: es).length + ([] : List Keyword).length) (backTo pos (starEach (e :: es) env)) (backToKw pos (keywordEach [] env))) = _
  simp only [hm]
def eMeth (cn m : Str) (F : Fn) (i : Nat) (a : Xs) : Ex where
  sem := methSem cn m i F.np a.sems F.φ
  m := fun N sc cm e => match e with
    | .Call (.Attribute (.Name x _) y apos) (e :: es) [] pos => cm && (decide (y = m) && (nmB N sc i x && (a.m N sc cm (e :: es) && (noStars (e :: es) && (decide (es.length < 28) && (apos.endLine == pos.line))))))
    | _ => false
  pre := fun Γ k => HasM Γ k cn m F ∧ a.pre Γ k
  snd := fun {X xi N sc lvl cm W e} g p h => by
    split at h
    · simp only [Bool.and_eq_true, decide_eq_true_eq] at h
      obtain ⟨hc, rfl, h1, h2, h3, h4, h5⟩ := h
      have h0 := h3
      simp only [noStars, Bool.and_eq_true] at h3
      obtain ⟨⟨C, f, fd, ps, k1, k2, k3, k4, k5⟩, pa⟩ := p
      exact PE.to (pe_meth (nm_of g.hN g.hsc h1) k2 k3 k5 (g.room hc) k4 .nil passL (a.snd g pa h2) (starEach_of h3.1) (anyStar_of h3.2) (meth_tree h0 h4 h5)) fun σ H Q hq => meth_to k1 hq
    · cases h
end Pv
set_option Elab.async false
set_option linter.all false
set_option maxRecDepth 100000
set_option maxHeartbeats 2000000
/-! Pv part Y: new instances; index. -/
namespace Pv
open PySem L2
/-! ### C(args) -/
/-- the class cn is made by F, one level below -/
def HasI (Γ : Gm) (lvl : Nat) (cn : Str) (F : Fn) : Prop := ∃ C f fd ps, Γ.mg cn = some (.ref C) ∧ ClsAt Γ.K cn C ∧ Mk Γ.K C f ∧ Binds Γ.K fd ps [] ∧ FnOk Γ.P Γ.w Γ.K Γ.mg Γ.base (L2.CX Γ.P Γ.w) lvl f fd ps (spF Γ.K Γ.xi F.np F.φ)
theorem HasI.mono {Γ : Gm} {j k : Nat} {cn : Str} {F : Fn} (h : HasI Γ j cn F) (l : j ≤ k) : HasI Γ k cn F := by
  obtain ⟨C, f, fd, ps, h1, h2, h3, h4, h5⟩ := h
  exact ⟨C, f, fd, ps, h1, h2, h3, h4, h5.mono l⟩
def newF (cn : Str) (φ : List T → FR) (ts : List T) : FR := match φ (.mob cn [] [] :: ts) with
  | .ok .non (some (.obj c ns fs) :: ρ) => if c = cn ∧ T.imms fs = true then .ok (.obj c ns fs) ρ else .stuck
  | _ => .stuck
theorem new_ok {K : PySem.W.Frag} {xi : XI} {cn : Str} {n : Nat} {φ : List T → FR} {C : Addr} (hc : ClsAt K cn C) {vs : List V} {H : Hp} {Q : VK} {E : XK} (h : spF K xi n (newF cn φ) vs H Q E) :
    ∀ x dx, H x = none → H dx = none → dx ≠ x → spF K xi (n + 1) φ (.ref x :: (vs ++ [])) (upd (upd H dx (.own x)) x (.ins C dx [])) (fun v H2 => v = .non ∧ Q (.ref x) H2) (fun _ _ _ => False) := by
  intro x dx hx hdx hne
  obtain ⟨ts, fp, hl, e, h⟩ := h
  rw [List.append_nil]
  let H1 : Hp := upd (upd H dx (.own x)) x (.ins C dx [])
  have k1 : ∀ a o, H a = some o → H1 a = some o := fun a o z => by
    show upd (upd H dx (.own x)) x (.ins C dx []) a = some o
    rw [upd_ne (ne_of_none z hx), upd_ne (ne_of_none z hdx)]
    exact z
  have hx1 : H1 x = some (.ins C dx []) := upd_same
  have nin : ∀ a, In fp a → a ≠ x := fun a ha z => by
    obtain ⟨o, ho, _⟩ := e.own a ha
    rw [z, hx] at ho; cases ho
  let fq : Fp := fun j => match j with
    | 0 => [x]
    | j + 1 => fp j
  have inq : ∀ a, In fq a → a = x ∨ In fp a := fun a ⟨j, hj⟩ => by
    cases j with
    | zero => exact .inl (List.mem_singleton.mp hj)
    | succ j => exact .inr ⟨j, hj⟩
  have e1 : Env K ((T.mob cn [] [] :: ts).map some) fq ((V.ref x :: vs).map some) H1 := by
    refine ⟨by have := e.len; simpa using this, fun i t hi => ?_, fun i hi => ?_, fun i => ?_, fun i j a ha hb => ?_⟩
    · cases i with
      | zero =>
        cases hi
        exact ⟨.ref x, rfl, x, C, dx, [], [], rfl, rfl, hc, hx1, rfl, rfl, rfl, rfl⟩
      | succ i =>
        obtain ⟨v, hv, r⟩ := e.rep i t (by simpa using hi)
        exact ⟨v, by simpa using hv, r.ext k1⟩
    · cases i with
      | zero => exact absurd rfl (hi (.mob cn [] []))
      | succ i => exact e.emp i fun t ht => hi t (by simpa using ht)
    · cases i with
      | zero => simp [fq]
      | succ i => exact e.nd i
    · cases i with
      | zero =>
        cases j with
        | zero => rfl
        | succ j => exact absurd (List.mem_singleton.mp ha) (nin a ⟨j, hb⟩)
      | succ i =>
        cases j with
        | zero => exact absurd (List.mem_singleton.mp hb) (nin a ⟨i, ha⟩)
        | succ j => rw [e.dj i j a ha hb]
  refine ⟨_, fq, by simp [hl], e1, ?_⟩
  unfold newF at h
  cases hφ : φ (.mob cn [] [] :: ts) with
  | stuck => rw [hφ] at h; exact h.elim
  | ex c t ρ => rw [hφ] at h; exact h.elim
  | ok r ρ =>
    rw [hφ] at h
    cases r <;> first | exact (show False from h).elim | skip
    rcases ρ with _ | ⟨o, ρ⟩
    · exact h.elim
    cases o with
    | none => exact h.elim
    | some o =>
      cases o <;> first | exact (show False from h).elim | skip
      rename_i c ns fs
      simp only at h
      by_cases q : c = cn ∧ T.imms fs = true
      case neg => rw [if_neg q] at h; exact h.elim
      rw [if_pos q] at h
      obtain ⟨rfl, q⟩ := q
      intro v H2 fr fo e2 s2 rv
      refine ⟨rv.1, ?_⟩
      obtain ⟨w, hw, ro⟩ := e2.rep 0 _ rfl
      have ew : w = .ref x := by simpa using hw.symm
      subst ew
      have r0 : fr 0 = [] := ro.imm_nil (show T.imms fs = true from q)
      rw [r0] at ro
      have inr : ∀ a, In (fun j => fr (j + 1)) a → In fr a := fun a ⟨j, hj⟩ => ⟨j + 1, hj⟩
      have back : ∀ a, In fq a ∨ H1 a = none → In fp a ∨ H a = none := fun a z => by
        rcases z with z | z
        · rcases inq a z with z | z
          · exact .inr (by rw [z]; exact hx)
          · exact .inl z
        · refine .inr ?_
          cases hh : H a with
          | none => rfl
          | some o => rw [k1 a o hh] at z; cases z
      refine h (.ref x) H2 (fun j => fr (j + 1)) [] ⟨?_, fun i t hi => ?_, fun i hi => ?_, fun i => e2.nd (i + 1), fun i j a ha hb => ?_⟩ ⟨fun a o z nz => ?_, fun a z => ?_, .nil, fun _ z => by cases z⟩ ro
      · have := e2.len; simpa using this
      · obtain ⟨v, hv, r⟩ := e2.rep (i + 1) t (by simpa using hi)
        exact ⟨v, by simpa using hv, r⟩
      · exact e2.emp (i + 1) fun t ht => hi t (by simpa using ht)
      · have := e2.dj (i + 1) (j + 1) a ha hb; omega
      · refine s2.keep a o (k1 a o z) fun w => ?_
        rcases inq a w with w | w
        · rw [w, hx] at z; cases z
        · exact nz w
      · rcases z with z | z
        · exact back a (s2.sub a (.inl (inr a z)))
        · cases z
def eNew (cn : Str) (F : Fn) (a : Xs) : Ex where
  sem := effSem (F.np - 1) a.sems (newF cn F.φ)
  m := fun N sc cm e => cm && callM cn a N sc cm e
  pre := fun Γ k => (∃ j, k = j + 1 ∧ HasI Γ j cn F) ∧ 0 < F.np ∧ a.pre Γ k
  snd := fun {X xi N sc lvl cm W e} g p h => by
    simp only [Bool.and_eq_true] at h
    obtain ⟨hc, h⟩ := h
    unfold callM at h
    split at h
    · simp only [Bool.and_eq_true, decide_eq_true_eq] at h
      obtain ⟨rfl, h1, h2, h3, h4⟩ := h
      have G := gl_of g.hsc h1
      obtain ⟨⟨j, rfl, C, f, fd, ps, k1, k2, k3, k4, k5⟩, hp, pa⟩ := p
      refine PE.to (pe_make k3 k5 (g.room hc) G.gl k1 k4 .nil passL (a.snd g pa h4) G.db (starEach_of h2) (anyStar_of h3)) fun σ H Q hq => ?_
      have z := eff_to (r := fun σ vs H Q => spF X.K xi (F.np - 1) (newF _ F.φ) vs H Q (WE W σ)) (fun vs H Q z => z) hq
      have up : ∀ (ss : List (Rho → R)) (σ : L2.St) (H : Hp) (P P' : List V → Hp → Prop), (∀ vs H, P vs H → P' vs H) → nest X.K xi W ss σ H P → nest X.K xi W ss σ H P' := by
        intro ss
        induction ss with
        | nil => intro σ H P P' hp z; exact hp _ _ z
        | cons s ss ih =>
          intro σ H P P' hp z
          obtain ⟨ρ, fp, e, z⟩ := z
          refine ⟨ρ, fp, e, ?_⟩
          cases hs : s ρ with
          | stuck => rw [hs] at z; exact z
          | ex c t ρ' => rw [hs] at z; exact z
          | ok o ρ' τ => rw [hs] at z; exact fun v H' fp' fo e' s' q' r' => ih _ _ _ _ (fun vs H => hp (v :: vs) H) (z v H' fp' fo e' s' q' r')
      refine up a.sems σ H _ _ (fun vs H1 z x dx n1 n2 n3 => ?_) z
      have w := new_ok k2 z x dx n1 n2 n3
      rw [show F.np - 1 + 1 = F.np by omega] at w
      exact w
    · cases h
/-! ### xs.index(y), there -/
def indexT (s t : T) : Option T := match s with
  | .lst ts => if SeqAt.shaped (T.lst ts).toD = true ∧ SeqAt.shaped t.toD = true then ((T.toDs ts).findIdx? fun z => PyData.eqv z t.toD).map fun j => .int (j : Nat) else none
  | _ => none
def eIndex (o a : Ex) : Ex := eMP "list" "list.index" "index" isLst (fun _ => ty_lst) PySem.F.plainAttrs_list PySem.F.slot_list_index PySem.F.type_list_index o (xs [a]) (f2 indexT) fun X hu => ⟨_, mt_indexD (by omega), ok2 fun H s t u x y fx fy hg rx ry Q p => by
  cases s <;> first | (simp [indexT] at hg; done) | skip
  rename_i ts
  simp only [indexT] at hg
  split at hg
  · rename_i c
    cases hj : (T.toDs ts).findIdx? fun z => PyData.eqv z t.toD with
    | none => rw [hj] at hg; cases hg
    | some j =>
      rw [hj] at hg
      cases hg
      obtain ⟨a, vs, g, rfl, ef, ha, r⟩ := id rx
      have d1 := rep_dp rx (SeqAt.canLay_of_shaped c.1)
      have d2 := rep_dp ry (SeqAt.canLay_of_shaped c.2)
      obtain ⟨hlt, he, hno⟩ := List.findIdx?_eq_some_iff_getElem.mp hj
      refine ⟨a, y, t.toD, T.toDs ts, j, (T.toDs ts)[j], rfl, rfl, d1, d2, c.1, c.2, List.getElem?_eq_getElem hlt, he, fun m z' hm hz => ?_, p.v ⟨rfl, rfl⟩⟩
      obtain ⟨hm', e⟩ := List.getElem?_eq_some_iff.mp hz
      have := hno m hm
      rw [e] at this
      simpa using this
  · cases hg⟩
end Pv
set_option Elab.async false
set_option linter.all false
set_option maxRecDepth 100000
set_option maxHeartbeats 2000000
/-! Pv part Z: list(xs[k]), xs not used any more. -/
namespace Pv
open PySem L2
def lmvSem (i k : Nat) : Rho → R := fun ρ => match ρ[i]? with
  | some (some (.lst ws)) => match ws[k]? with
    | some (.lst ts) => .ok (.v (.lst ts)) (ρ.set i none) true
    | _ => .stuck
  | _ => .stuck
def eListMv (i k : Nat) : Ex where
  sem := lmvSem i k
  m := fun N sc cm e => match e with
    | .Call (.Name y _) [e] [] _ => decide (y = "list") && (glB sc y && (notStar e && (eIx (eVar i) (eInt (k : Int))).m N sc cm e))
    | _ => false
  pre := fun Γ _ => Γ.mg "list" = none
  snd := fun {X xi N sc lvl cm W e} g p h => by
    split at h
    · simp only [Bool.and_eq_true, decide_eq_true_eq] at h
      obtain ⟨rfl, h1, h2, h3⟩ := h
      have G := gl_of g.hsc h1
      have pa := (eIx (eVar i) (eInt (k : Int))).snd (xi := xi) g ⟨True.intro, True.intro⟩ h3
      refine PE.to (pe_callTy call_list_of G.gl p (by decide +kernel) (pa_cons pa pa_nil (starEach_of h2)) G.nn G.db (starEach_of h2) rfl) fun σ H Q hq => ?_
      obtain ⟨ρ, fp, e, hq⟩ := hq
      unfold lmvSem at hq
      cases hi : ρ[i]? with
      | none => rw [hi] at hq; exact hq.elim
      | some x =>
        cases x with
        | none => rw [hi] at hq; exact hq.elim
        | some t =>
          rw [hi] at hq
          cases t <;> first | exact (show False from hq).elim | skip
          rename_i ws
          simp only at hq
          cases hk : ws[k]? with
          | none => rw [hk] at hq; exact hq.elim
          | some s =>
            rw [hk] at hq
            cases s <;> first | exact (show False from hq).elim | skip
            rename_i ts
            simp only at hq
            show nest X.K xi W [(eIx (eVar i) (eInt (k : Int))).sem] σ H _
            have hs : (eIx (eVar i) (eInt (k : Int))).sem ρ = .ok (.p i [k]) ρ false := by
              have th : O.there ρ (.p i []) = true := by simp only [O.there, hi]
              have klt : k < ws.length := (List.getElem?_eq_some_iff.mp hk).1
              have en : ixN ws.length (k : Int) = some k := by
                unfold ixN
                rw [if_pos (by omega), if_pos (by omega)]
                simp
              have g1 : getO ρ (.p i []) = some (.lst ws) := by simp only [getO, hi, T.at]
              exact e_ix (o1 := .p i []) (o2 := .v (.int k)) (x := .lst ws) (y := .int k) (τ1 := false) (τ2 := false) (v_lst hi) rfl (by simp [th, O.deep]) rfl g1 rfl (by simp only [ixO, en, hk, itemO]; rfl)
            refine ⟨ρ, fp, e, ?_⟩
            rw [hs]
            intro v H1 fp1 fo1 e1 s1 q1 o1
            obtain ⟨rfl, u, t', s', g0, hu, ht, rp⟩ := o1
            rw [hi] at ht
            cases ht
            obtain ⟨a0, vs0, x0, y0, f1, fm, f2, rfl, ef, ha0, hx0, hy0, r1, rp, r2⟩ := rp
            rw [hk] at hx0
            cases hx0
            obtain ⟨rfl, rfl, rfl, rr⟩ := rp
            obtain ⟨b, vs, g', rfl, eg, hb, rs⟩ := rr
            refine ⟨b, vs, rfl, .inl (SqL.of hb), fun l hl => ?_⟩
            have kl : ∀ a o, H1 a = some o → upd H1 l (.lst vs) a = some o := fun a o z => by rw [upd_ne (ne_of_none z hl)]; exact z
            have sub : ∀ a ∈ g', a ∈ fp1 i := fun a ha => by
              rw [ef, eg]; simp [ha]
            have nd := e1.nd i
            rw [ef, eg] at nd
            have ng : g'.Nodup := by
              have n1 := (List.nodup_cons.mp nd).2
              have n2 := (List.nodup_append.mp n1).1
              have n3 := (List.nodup_append.mp n2).2.1
              exact (List.nodup_cons.mp n3).2
            have nl : l ∉ g' := fun z => by
              obtain ⟨o, ho, _⟩ := e1.own l ⟨i, sub l z⟩
              rw [hl] at ho; cases ho
            refine hq (.ref l) _ (fun j => if j = i then [] else fp1 j) (l :: g') ((e1.empty i).ext kl) ⟨fun a o z n => kl a o (s1.keep a o z n), fun a z => ?_, List.nodup_cons.mpr ⟨nl, ng⟩, fun a ha z => ?_⟩ (fun z => by cases z) ⟨l, vs, g', rfl, rfl, upd_same, rs.ext kl⟩
            · rcases z with z | z
              · obtain ⟨j, _, z⟩ := in_empty z
                exact s1.sub a (.inl ⟨j, z⟩)
              · rcases List.mem_cons.mp z with rfl | z
                · exact s1.back hl
                · exact s1.sub a (.inl ⟨i, sub a z⟩)
            · obtain ⟨j, hj, z⟩ := in_empty z
              rcases List.mem_cons.mp ha with rfl | ha
              · obtain ⟨o, ho, _⟩ := e1.own a ⟨j, z⟩
                rw [hl] at ho; cases ho
              · exact hj (e1.dj j i a z (sub a ha))
    · cases h
end Pv
set_option Elab.async false
set_option linter.all false
set_option maxRecDepth 100000
set_option maxHeartbeats 2000000
/-! Pv part R: name = [..], the name a cell. -/
namespace Pv
open PySem L2
def sSetLcC (i : Nat) (l : Lc) : Sx where
  sem := asgS (gN i).sem l.sem
  asg := [i]
  m := fun N sc cm s => match s with
    | .Assign [.Name y py] (.ListComp elt gens scope pos) spos => cm && (decide (sc.names.lookup y = some .cell) && ((gN i).m N sc false (.Name y py) && (eLc l).m N sc cm (.ListComp elt gens scope pos)))
    | _ => false
  pre := l.pre
  snd := fun {X xi N sc lvl cm W x} g p h => by
    split at h
    · rename_i y py elt gens scope pos spos
      simp only [Bool.and_eq_true, decide_eq_true_eq] at h
      obtain ⟨hc, h3, h4, h5⟩ := h
      obtain ⟨gg, hg, gk⟩ := (gN i).snd g.hN g.nd g.hsc (g.hcm hc) (fun _ => g.fnok) h4
      have hsw : swapsWithSole [.Name y py] (.ListComp elt gens scope pos) spos.line X.env = pure false := by
        show swapsWith (.ListComp elt gens scope pos) (some (.Name y py)) spos.line X.env = pure false
        have hk : X.env.kindOf y = some .cell := by unfold Env.kindOf; rw [g.hsc]; exact h3
        unfold swapsWith
        have e1 : (NameKind.cell == NameKind.local) = false := by decide
        simp [hk, e1]
      refine PS.to (ps_asg ((eLc l).snd g.toGd p h5) hg hsw (by rfl) (by rfl)) fun D σ H hq => ?_
      obtain ⟨ρ, fp, e, hq⟩ := hq
      refine ⟨ρ, fp, e, ?_⟩
      simp only [asgS] at hq
      cases hs : l.sem ρ with
      | stuck => rw [hs] at hq; rw [show (eLc l).sem ρ = l.sem ρ from rfl, hs]; exact hq
      | ex c t ρ' => rw [hs] at hq; rw [show (eLc l).sem ρ = l.sem ρ from rfl, hs]; exact fun d H' fp' e' s' x => hq d σ H' fp' e' s' Agree.refl x
      | ok o ρ' τ =>
        rw [hs] at hq
        rw [show (eLc l).sem ρ = l.sem ρ from rfl, hs]
        cases o with
        | p i q => exact hq.elim
        | v t =>
          simp only at hq
          cases ht : (gN i).sem t ρ' with
          | none => rw [ht] at hq; exact hq.elim
          | some ρ2 =>
            rw [ht] at hq
            exact fun v H' fp' fo e' s' q' r' => gk t v fo σ H' ρ' ρ2 fp' D.nx e' r' s'.nd s'.dj ht fun σ2 fp2 e2 hin ag => asg_fin hq s' e2 hin.1 ag
    · cases h
end Pv
set_option Elab.async false
set_option linter.all false
set_option maxRecDepth 100000
set_option maxHeartbeats 400000
/-! Pv part Ra: more rules to run the terms (first written for k83). -/
namespace Pv
open PySem L2
theorem s_ret_p {a : Ex} {ρ ρ1 : Rho} {i : Nat} {path : List Nat} {t : T} {τ : Bool} (h : a.sem ρ = .ok (.p i path) ρ1 τ) (g : getO ρ1 (.p i path) = some t) : (sRet a).sem ρ = .ret t (ρ1.set i none) := by
  show retS a.sem ρ = _
  unfold retS
  rw [h]; simp only; rw [g]
theorem x_ex {a : Ex} {ρ ρ1 : Rho} {c : Nat} {t : T} (h : a.sem ρ = .ex c t ρ1) : (sExpr a).sem ρ = .ex c t ρ1 := by
  show exprS a.sem ρ = _
  unfold exprS; rw [h]
theorem x_nx {a : Ex} {ρ ρ1 : Rho} {o : O} {τ : Bool} (h : a.sem ρ = .ok o ρ1 τ) : (sExpr a).sem ρ = .nx ρ1 := by
  show exprS a.sem ρ = _
  unfold exprS; rw [h]
theorem tr_nx {c i : Nat} {cn f : Str} {op : CmpOp} {body : Bl} {b : Ex} {ρ ρ1 : Rho} (h : body.sem ρ = .nx ρ1) : (sTryRet c cn i f op body b).sem ρ = .nx ρ1 := by
  show tryRetS c i op body.sem b.sem ρ = _
  unfold tryRetS; rw [h]
theorem tr_ex {c i : Nat} {cn f : Str} {op : CmpOp} {body : Bl} {b : Ex} {ρ ρ1 ρ2 : Rho} {t r : T} {o : O} {τ : Bool} (h : body.sem ρ = .ex c t ρ1) (hi : i < ρ1.length) (hb : b.sem (ρ1.set i none) = .ok o ρ2 τ) (hr : f2 (cmpV op) ρ2 [.v t, o] = some r) : (sTryRet c cn i f op body b).sem ρ = .ret r ρ2 := by
  show tryRetS c i op body.sem b.sem ρ = _
  unfold tryRetS; rw [h]; simp only; rw [if_pos ⟨trivial, hi⟩, hb]; simp only; rw [hr]
theorem lc_map {set : T → Rho → Option Rho} {tt : Rho → RB} {te : Rho → R} {vs : List Nat} {ρ : Rho} {f : T → T} : ∀ (items acc : List T), (∀ t ∈ items, ∃ ρ1 ρ3, set t ρ = some ρ1 ∧ tt ρ1 = .ok true ρ1 false ∧ te ρ1 = .ok (.v (f t)) ρ3 false ∧ wipeR ρ3 vs = ρ) → acc.length + items.length ≤ sizeLine →
    lcF set tt te vs items acc ρ false = .ok (acc ++ items.map f) ρ false
  | [], acc, _, _ => by rw [List.map_nil, List.append_nil]; rfl
  | t :: ts, acc, h, hl => by
    obtain ⟨ρ1, ρ3, h1, h2, h3, h4⟩ := h t List.mem_cons_self
    simp only [List.length_cons] at hl
    simp only [lcF, h1, h2, h3, if_true]
    rw [if_pos (by omega), h4]
    have := lc_map ts (acc ++ [f t]) (fun x hx => h x (List.mem_cons_of_mem _ hx)) (by rw [List.length_append]; simp; omega)
    simp only [Bool.or_false]
    rw [this]
    simp
theorem s_ext {i : Nat} {a : Ex} {ρ : Rho} {ts us : List T} (h : ρ[i]? = some (some (.lst ts))) (ha : a.sem ρ = .ok (.v (.lst us)) ρ false) (hl : ts.length + us.length ≤ sizeLine) :
    (sExpr (eExtend (eVar i) a)).sem ρ = .nx (ρ.set i (some (.lst (ts ++ us)))) := by
  show exprS (effSem 2 [kindSem isLst (eVar i).sem, a.sem] extendF) ρ = _
  have th : O.there ρ (.p i []) = true := by simp only [O.there, h]
  unfold exprS effSem
  rw [ev2 (k_lst h) ha (by simp [th, O.deep]) rfl]
  simp only [getOs, getO, h, T.at]
  rw [if_pos ⟨rfl, rfl⟩]
  simp only [extendF, if_pos hl, effFin, wb, h, T.put]
theorem rg1 {a : Ex} {ρ ρ1 : Rho} {j : Int} {τ : Bool} (h : a.sem ρ = .ok (.v (.int j)) ρ1 τ) (hj : small62 j = true) : (iRange1 a).sem ρ = .ok (rangeL 0 j) ρ1 τ false := by
  show rngSem [a.sem] rng1F ρ = _
  unfold rngSem
  rw [evc h evn]
  simp only [getOs, getO, rng1F, if_pos hj, Bool.or_false]
theorem eq_int (ρ : Rho) (i : Nat) (j k : Int) (h : ρ[i]? = some (some (.int k))) : (bCmp .Eq (eVar i) (eInt j)).sem ρ = .ok (k == j) ρ false := by
  have v : (eVar i).sem ρ = .ok (.v (.int k)) ρ false := v_imm h rfl
  exact b_cmp (τ1 := false) (τ2 := false) (o2 := .v (.int j)) (y := .int j) v rfl rfl rfl rfl rfl rfl
theorem e_lc {l : Lc} {ρ ρ1 ρ2 : Rho} {items acc : List T} {τ τ2 w : Bool} (hi : l.it.sem ρ = .ok items ρ1 τ w) (hc : calmAt ρ1 l.vs = true) (h : lcF l.tg.sem l.tt l.el.sem l.vs items [] (wipeR ρ1 l.vs) false = .ok acc ρ2 τ2) (hw : w = false ∨ τ2 = false) :
    (eLc l).sem ρ = .ok (.v (.lst acc)) (unwipe ρ1 ρ2 l.vs) (τ || τ2) := by
  show lcSem l.it.sem l.tg.sem l.tt l.el.sem l.vs ρ = _
  unfold lcSem
  rw [hi]; simp only; rw [if_pos hc, h]; simp only
  rw [if_neg (by rintro ⟨rfl, rfl⟩; rcases hw with z | z <;> cases z)]
theorem e_tuple {a : Ex} {ρ ρ1 : Rho} {o : O} {ts : List T} {τ : Bool} (h : a.sem ρ = .ok o ρ1 τ) (d : o.there ρ1 = true) (g : getO ρ1 o = some (.lst ts)) (im : T.imms ts = true) : (eTuple a).sem ρ = .ok (.v (.tup ts)) ρ1 τ := by
  show opSem [a.sem] (f1 tupleT) ρ = _
  unfold opSem
  rw [ev1 h d]
  simp only [f1, g, tupleT, im, if_true]
theorem b_skip {q : Bx} {x : Bl} {l : List Sx} {ρ ρ1 : Rho} {τ : Bool} (h : q.sem ρ = .ok false ρ1 τ) : (blk (sIf q x (blk []) :: l)).sem ρ = (blk l).sem ρ1 := b_nx ((i_f h).trans rfl)
theorem b_hit {q : Bx} {x : Bl} {l : List Sx} {ρ ρ1 ρ2 : Rho} {t : T} {τ : Bool} (h : q.sem ρ = .ok true ρ1 τ) (h2 : x.sem ρ1 = .ret t ρ2) : (blk (sIf q x (blk []) :: l)).sem ρ = .ret t ρ2 := b_ret ((i_t h).trans h2)
theorem str_add {a b : Ex} {ρ ρ1 ρ2 : Rho} {x y : Str} {τ1 τ2 : Bool} (h1 : a.sem ρ = .ok (.v (.str x)) ρ1 τ1) (h2 : b.sem ρ1 = .ok (.v (.str y)) ρ2 τ2) (hl : x.length + y.length ≤ 1000000) : (eBin .Add a b).sem ρ = .ok (.v (.str (x ++ y))) ρ2 (τ1 || τ2) :=
  e_bin h1 h2 rfl rfl rfl rfl (if_pos (by rw [sizeLine_eq]; omega))
theorem cut63 (ns : List Int) (h : ns.length ≤ 63) : cutL ns none (some 63) = ns := by
  unfold cutL
  rw [HT.sIx_none, show (some (63 : Int)) = some ((63 : Nat) : Int) from rfl, HT.sIx_nat, List.drop_zero]
  exact List.take_of_length_le (by omega)
theorem ne_same {a b : Ex} {ρ ρ1 ρ2 : Rho} {t : T} {τ1 τ2 : Bool} (h1 : a.sem ρ = .ok (.v t) ρ1 τ1) (h2 : b.sem ρ1 = .ok (.v t) ρ2 τ2) (e : eqT t t = some true) : (bCmp .NotEq a b).sem ρ = .ok false ρ2 (τ1 || τ2) := by
  refine b_cmp h1 h2 rfl rfl rfl rfl ?_
  show (eqT t t).map (!·) = _
  rw [e]; rfl
theorem eq_int_self (i : Int) : eqT (.int i) (.int i) = some true := by
  unfold eqT
  rw [if_pos ⟨rfl, rfl⟩]
  simp [T.toD, PyData.eqv]
theorem hr_int (ρ : Rho) (i : Int) : f2 (cmpV .Eq) ρ [.v (.int i), .v (.int i)] = some (.bl true) := by
  show (eqT (.int i) (.int i)).map T.bl = _
  rw [eq_int_self]; rfl
theorem small62_of {i : Int} (h : -1 ≤ i ∧ i < 4000000) : small62 i = true := by
  unfold small62
  rw [decide_eq_true (by omega), decide_eq_true (by omega)]; rfl
theorem mul_lit {i j : Int} (h : -(2 ^ 64) < j ∧ j < 2 ^ 64) : binT .Mult (.int i) (.int j) = some (.int (i * j)) := if_pos (.inr h)
theorem mul_small {i j : Int} (h : -(2 ^ 64) < i ∧ i < 2 ^ 64) : binT .Mult (.int i) (.int j) = some (.int (i * j)) := if_pos (.inl h)
theorem mod_pos {i j : Int} (h : 0 < j) : binT .Mod (.int i) (.int j) = some (.int (i % j)) := if_pos h
theorem div_ok {i j : Int} (h : 0 < j ∧ j < 1073741824) : binT .FloorDiv (.int i) (.int j) = some (.int (i / j)) := if_pos h
theorem int_id {a : Ex} {ρ ρ1 : Rho} {i : Int} {τ : Bool} (h : a.sem ρ = .ok (.v (.int i)) ρ1 τ) : (eIntT a).sem ρ = .ok (.v (.int i)) ρ1 τ := by
  show opSem [a.sem] (f1 intOfT) ρ = _
  unfold opSem
  rw [ev1 h rfl]
  rfl
theorem ixN_in {n : Nat} {i : Int} (h0 : 0 ≤ i) (h : i < (n : Int)) : ixN n i = some i.toNat := by
  unfold ixN
  rw [if_pos h0, if_pos h]
theorem imms_get : ∀ {ts : List T} {k : Nat} {t : T}, T.imms ts = true → ts[k]? = some t → t.imm = true
  | [], k, t, _, h => by simp at h
  | a :: ts, 0, t, h, e => by
    simp only [T.imms, Bool.and_eq_true] at h
    simp only [List.getElem?_cons_zero, Option.some.injEq] at e
    rw [← e]; exact h.1
  | a :: ts, k + 1, t, h, e => by
    simp only [T.imms, Bool.and_eq_true] at h
    exact imms_get h.2 (by simpa using e)
end Pv
set_option Elab.async false
set_option linter.all false
set_option maxRecDepth 100000
set_option maxHeartbeats 400000
/-! Pv part Rb: loops by an invariant, pop at a place, ranges of two. -/
namespace Pv
open PySem L2
theorem imms_of : ∀ {ts : List T}, (∀ t ∈ ts, t.imm = true) → T.imms ts = true
  | [], _ => rfl
  | t :: ts, h => by
    simp only [T.imms, Bool.and_eq_true]
    exact ⟨h t List.mem_cons_self, imms_of fun u hu => h u (List.mem_cons_of_mem _ hu)⟩
theorem imms_mem {ts : List T} (h : T.imms ts = true) : ∀ t ∈ ts, t.imm = true := fun t ht => by
  obtain ⟨k, hk, e⟩ := List.getElem_of_mem ht
  exact imms_get h (by rw [List.getElem?_eq_getElem hk, e])
theorem for_inv {set : T → Rho → Option Rho} {b : Rho → RS} (I : List T → Rho → Prop) (step : ∀ t ts ρ, I (t :: ts) ρ → ∃ ρ1 ρ2, set t ρ = some ρ1 ∧ b ρ1 = .nx ρ2 ∧ I ts ρ2) : ∀ (ts : List T) (ρ : Rho), I ts ρ → ∃ ρ', forF set b ts ρ = .nx ρ' ∧ I [] ρ'
  | [], ρ, h => ⟨ρ, rfl, h⟩
  | t :: ts, ρ, h => by
    obtain ⟨ρ1, ρ2, h1, h2, h3⟩ := step t ts ρ h
    obtain ⟨ρ', e, i⟩ := for_inv I step ts ρ2 h3
    exact ⟨ρ', (f_nx h1 h2).trans e, i⟩
theorem lc_inv {set : T → Rho → Option Rho} {tt : Rho → RB} {te : Rho → R} {vs : List Nat} (I : List T → List T → Rho → Prop)
    (step : ∀ t ts acc ρ, I (t :: ts) acc ρ → acc.length < sizeLine ∧ ∃ ρ1 ρ2 τ2, set t ρ = some ρ1 ∧ ((∃ y ρ3 τ3, tt ρ1 = .ok true ρ2 τ2 ∧ te ρ2 = .ok (.v y) ρ3 τ3 ∧ I ts (acc ++ [y]) (wipeR ρ3 vs)) ∨ (tt ρ1 = .ok false ρ2 τ2 ∧ I ts acc (wipeR ρ2 vs)))) :
    ∀ (ts acc : List T) (ρ : Rho) (τ : Bool), I ts acc ρ → ∃ acc' ρ' τ', lcF set tt te vs ts acc ρ τ = .ok acc' ρ' τ' ∧ I [] acc' ρ'
  | [], acc, ρ, τ, h => ⟨acc, ρ, τ, rfl, h⟩
  | t :: ts, acc, ρ, τ, h => by
    obtain ⟨hl, ρ1, ρ2, τ2, h1, h2⟩ := step t ts acc ρ h
    rcases h2 with ⟨y, ρ3, τ3, h2, h3, h4⟩ | ⟨h2, h4⟩
    · obtain ⟨acc', ρ', τ', e, i⟩ := lc_inv I step ts _ _ (τ || (τ2 || τ3)) h4
      refine ⟨acc', ρ', τ', ?_, i⟩
      simp only [lcF, h1, h2, h3]
      rw [if_pos trivial, if_pos hl]
      exact e
    · obtain ⟨acc', ρ', τ', e, i⟩ := lc_inv I step ts _ _ (τ || τ2) h4
      refine ⟨acc', ρ', τ', ?_, i⟩
      simp only [lcF, h1, h2]
      rw [if_neg Bool.false_ne_true]
      exact e
/-- quiet comprehension with a test: a filter and a map -/
theorem lc_fmap {set : T → Rho → Option Rho} {tt : Rho → RB} {te : Rho → R} {vs : List Nat} {ρ : Rho} {p : T → Bool} {f : T → T} : ∀ (items acc : List T), (∀ t ∈ items, ∃ ρ1, set t ρ = some ρ1 ∧ tt ρ1 = .ok (p t) ρ1 false ∧ (p t = true → te ρ1 = .ok (.v (f t)) ρ1 false) ∧ wipeR ρ1 vs = ρ) → acc.length + items.length ≤ sizeLine →
    lcF set tt te vs items acc ρ false = .ok (acc ++ (items.filter p).map f) ρ false
  | [], acc, _, _ => by rw [List.filter_nil, List.map_nil, List.append_nil]; rfl
  | t :: ts, acc, h, hl => by
    obtain ⟨ρ1, h1, h2, h3, h4⟩ := h t List.mem_cons_self
    simp only [List.length_cons] at hl
    cases hp : p t with
    | true =>
      rw [hp] at h2
      have ih := lc_fmap (set := set) (tt := tt) (te := te) (vs := vs) (ρ := ρ) (p := p) (f := f) ts (acc ++ [f t]) (fun u hu => h u (List.mem_cons_of_mem _ hu)) (by simp only [List.length_append, List.length_cons, List.length_nil]; omega)
      have h3' := h3 hp
      clear h3
      simp only [lcF, h1, h2, h3']
      rw [if_pos trivial, if_pos (by omega), h4]
      simp only [Bool.or_false]
      rw [ih, List.filter_cons, if_pos hp, List.map_cons]
      simp
    | false =>
      rw [hp] at h2
      have ih := lc_fmap (set := set) (tt := tt) (te := te) (vs := vs) (ρ := ρ) (p := p) (f := f) ts acc (fun u hu => h u (List.mem_cons_of_mem _ hu)) (by omega)
      simp only [lcF, h1, h2]
      rw [if_neg Bool.false_ne_true, h4]
      simp only [Bool.or_false]
      rw [ih, List.filter_cons, if_neg (by rw [hp]; exact Bool.false_ne_true)]
theorem e_popAt {i : Nat} {a : Ex} {ρ ρ1 : Rho} {ts us : List T} {j : Int} {k : Nat} {t : T} {τ : Bool} (h : ρ[i]? = some (some (.lst us))) (ha : a.sem ρ = .ok (.v (.int j)) ρ1 τ) (h1 : ρ1[i]? = some (some (.lst ts))) (hk : ixN ts.length j = some k) (hg : ts[k]? = some t) (hl : ts.length ≤ sizeLine) :
    (ePopAt (eVar i) a).sem ρ = .ok (.v t) (ρ1.set i (some (.lst (ts.eraseIdx k)))) true := by
  show effSem 2 [kindSem isLst (eVar i).sem, a.sem] popAtF' ρ = _
  have th : O.there ρ1 (.p i []) = true := by simp only [O.there, h1]
  unfold effSem
  rw [ev2 (k_lst h) ha (by simp [th, O.deep]) rfl]
  simp only [getOs, getO, h1, T.at]
  rw [if_pos ⟨rfl, rfl⟩]
  simp only [popAtF', if_pos hl, popAtF, hk, hg, effFin, wb, h1, T.put]
  simp [slots, O.slot]
theorem rg2 {a b : Ex} {ρ ρ1 ρ2 : Rho} {i j : Int} {τ1 τ2 : Bool} (h1 : a.sem ρ = .ok (.v (.int i)) ρ1 τ1) (h2 : b.sem ρ1 = .ok (.v (.int j)) ρ2 τ2) (hi : small62 i = true) (hj : small62 j = true) : (iRange2 a b).sem ρ = .ok (rangeL i j) ρ2 (τ1 || τ2) false := by
  show rngSem [a.sem, b.sem] rng2F ρ = _
  unfold rngSem
  rw [evc h1 (evc h2 evn)]
  simp only [getOs, getO, rng2F]
  rw [if_pos (by rw [hi, hj]; rfl)]
  simp
theorem rangeL_mem {lo hi : Int} {t : T} (h : t ∈ rangeL lo hi) : ∃ k : Nat, t = .int (lo + (k : Int)) ∧ lo + (k : Int) < hi := by
  unfold rangeL at h
  obtain ⟨k, hk, rfl⟩ := List.mem_map.mp h
  exact ⟨k, rfl, by have := List.mem_range.mp hk; omega⟩
theorem rangeL_len (lo hi : Int) : (rangeL lo hi).length = (hi - lo).toNat := by simp [rangeL]
theorem eq_ints (i j : Int) : eqT (.int i) (.int j) = some (i == j) := rfl
/-- len of a list in a slot -/
theorem len_var {i : Nat} {ρ : Rho} {ts : List T} (h : ρ[i]? = some (some (.lst ts))) : (eLen (eVar i)).sem ρ = .ok (.v (.int ts.length)) ρ false := by
  show opSem [(eVar i).sem] (f1 lenT) ρ = _
  unfold opSem
  rw [ev1 (v_lst h) (by simp only [O.there, h])]
  simp only [f1, getO, h, T.at, lenT]
theorem e_callF {F : Fn} {φ : List T → FR} (hF : F.φ = φ) {a : Xs} {ρ ρ1 ρ2 : Rho} {os : List O} {ts : List T} {r : T} {ρA : Rho} {τ : Bool} (h : evL a.sems ρ = .ok os ρ1 τ) (g : getOs ρ1 os = some ts) (hn : ts.length = F.np) (hs : nodupB (slots os) = true) (f : φ ts = .ok r ρA) (w : wb os ρA ρ1 = some ρ2) :
    (eCall F a).sem ρ = .ok (.v r) ρ2 (τ || !(slots os).isEmpty) := e_call h g hn hs (hF ▸ f) w
theorem e_list {a : Ex} {ρ ρ1 : Rho} {o : O} {ts : List T} {τ : Bool} (h : a.sem ρ = .ok o ρ1 τ) (d : o.there ρ1 = true) (g : getO ρ1 o = some (.lst ts)) (im : T.imms ts = true) : (eList a).sem ρ = .ok (.v (.lst ts)) ρ1 τ := by
  show opSem [a.sem] (f1 listT) ρ = _
  unfold opSem
  rw [ev1 h d]
  simp only [f1, g, listT, im, if_true]
end Pv
namespace Pv
open PySem L2
theorem e_fld {cn f : Str} {a : Ex} {ρ ρ1 : Rho} {o : O} {t u : T} {τ : Bool} (h : a.sem ρ = .ok o ρ1 τ) (d : o.there ρ1 = true) (g : getO ρ1 o = some t) (hf : fldT cn f t = some u) : (eFld cn f a).sem ρ = .ok (.v u) ρ1 τ := by
  show opSem [a.sem] (f1 (fldT cn f)) ρ = _
  unfold opSem
  rw [ev1 h d]
  simp only [f1, g, hf]
theorem v_mob {i : Nat} {cn : Str} {ns : List Str} {fs : List T} {ρ : Rho} (h : ρ[i]? = some (some (.mob cn ns fs))) : (eVar i).sem ρ = .ok (.p i []) ρ false := by
  show varSem i ρ = _
  unfold varSem
  rw [h]
  rfl
theorem s_fldN {cn f : Str} {i : Nat} {a : Ex} {ρ ρ1 : Rho} {t : T} {ns : List Str} {fs : List T} {τ : Bool} (h : a.sem ρ = .ok (.v t) ρ1 τ) (hm : ρ1[i]? = some (some (.mob cn ns fs))) (c1 : t.imm = true) (c2 : T.imms fs = true) (c3 : ns.contains f = false) (c4 : ns.length < 900) :
    (sFld' cn f (eVar i) a).sem ρ = .nx (ρ1.set i (some (mkT cn (ns ++ [f]) (fs ++ [t])))) := by
  show effS (effSem 2 [a.sem, (eVar i).sem] (sfldF cn f)) ρ = _
  have e : evL [a.sem, (eVar i).sem] ρ = .ok [.v t, .p i []] ρ1 (τ || false) := ev2 h (v_mob hm) rfl (by simp only [O.there, hm])
  unfold effS effSem
  rw [e]
  simp only [getOs, getO, hm, T.at]
  rw [if_pos ⟨rfl, rfl⟩]
  simp only [sfldF]
  rw [if_pos ⟨trivial, c1, c2, c3, c4⟩]
  simp only [effFin, wb, hm, T.put]
theorem blk_app {l1 l2 : List Sx} {ρ ρ1 : Rho} (h : (blk l1).sem ρ = .nx ρ1) : (blk (l1 ++ l2)).sem ρ = (blk l2).sem ρ1 := by
  induction l1 generalizing ρ with
  | nil => cases h; rfl
  | cons a l1 ih =>
    have h' : seqS a.sem (blk l1).sem ρ = .nx ρ1 := h
    show seqS a.sem (blk (l1 ++ l2)).sem ρ = _
    unfold seqS at h' ⊢
    cases hs : a.sem ρ with
    | nx ρ2 => rw [hs] at h'; exact ih h'
    | _ => rw [hs] at h'; simp at h'
theorem e_new {cn : Str} {F : Fn} {φ : List T → FR} (hF : F.φ = φ) {a : Xs} {ρ ρ1 ρ2 : Rho} {os : List O} {ts : List T} {ns : List Str} {fs : List T} {ρA : Rho} {τ : Bool} (h : evL a.sems ρ = .ok os ρ1 τ) (g : getOs ρ1 os = some ts) (hn : ts.length = F.np - 1) (hs : nodupB (slots os) = true)
    (f : φ (.mob cn [] [] :: ts) = .ok .non (some (.obj cn ns fs) :: ρA)) (im : T.imms fs = true) (w : wb os ρA ρ1 = some ρ2) : (eNew cn F a).sem ρ = .ok (.v (.obj cn ns fs)) ρ2 (τ || !(slots os).isEmpty) := by
  show effSem (F.np - 1) a.sems (newF cn F.φ) ρ = _
  unfold effSem
  rw [h]; simp only; rw [g]; simp only
  rw [if_pos ⟨hs, hn⟩]
  unfold newF
  rw [hF, f]
  simp only
  rw [if_pos ⟨trivial, im⟩]
  unfold effFin
  simp only
  rw [w]
end Pv
set_option Elab.async false
set_option linter.all false
set_option maxRecDepth 100000
set_option maxHeartbeats 400000
/-! Pv part Rc: more rules. -/
namespace Pv
open PySem L2
theorem i_seqL {a : Ex} {ρ ρ1 : Rho} {o : O} {ts : List T} {τ : Bool} (h : a.sem ρ = .ok o ρ1 τ) (g : getO ρ1 o = some (.lst ts)) (im : T.imms ts = true) : (iSeq a).sem ρ = .ok ts ρ1 τ (!o.isV) := by
  show iLift a.sem seqI ρ = _
  unfold iLift
  rw [h]
  simp only [seqI, g, im, if_true]
theorem i_seqT {a : Ex} {ρ ρ1 : Rho} {o : O} {ts : List T} {τ : Bool} (h : a.sem ρ = .ok o ρ1 τ) (g : getO ρ1 o = some (.tup ts)) (im : T.imms ts = true) : (iSeq a).sem ρ = .ok ts ρ1 τ false := by
  show iLift a.sem seqI ρ = _
  unfold iLift
  rw [h]
  simp only [seqI, g, im, if_true]
theorem s_setLc {i : Nat} {l : Lc} {ρ ρ1 : Rho} {t : T} {τ : Bool} (h : (eLc l).sem ρ = .ok (.v t) ρ1 τ) (hi : i < ρ1.length) : (sSetLc i l).sem ρ = .nx (ρ1.set i (some t)) := by
  show asgS (gN i).sem l.sem ρ = _
  unfold asgS
  rw [show l.sem ρ = _ from h]
  simp only [gN, if_pos hi]
theorem s_setLcC {i : Nat} {l : Lc} {ρ ρ1 : Rho} {t : T} {τ : Bool} (h : (eLc l).sem ρ = .ok (.v t) ρ1 τ) (hi : i < ρ1.length) : (sSetLcC i l).sem ρ = .nx (ρ1.set i (some t)) := by
  show asgS (gN i).sem l.sem ρ = _
  unfold asgS
  rw [show l.sem ρ = _ from h]
  simp only [gN, if_pos hi]
theorem bl_is {b c : Bl} (h : b = c) {ρ : Rho} {r : RS} (e : c.sem ρ = r) : b.sem ρ = r := by rw [h]; exact e
end Pv
set_option Elab.async false
set_option linter.all false
set_option maxRecDepth 100000
set_option maxHeartbeats 400000
/-! Pv part Rd: items of tuples, fields and methods of made instances, dicts. -/
namespace Pv
open PySem L2
theorem ixN_nat {n k : Nat} (h : k < n) : ixN n (k : Int) = some k := by
  rw [ixN_in (by omega) (by omega)]; simp
theorem ix_tup {a b : Ex} {ρ ρ1 ρ2 : Rho} {ts : List T} {k : Nat} {u : T} {τ1 τ2 : Bool} (h1 : a.sem ρ = .ok (.v (.tup ts)) ρ1 τ1) (h2 : b.sem ρ1 = .ok (.v (.int k)) ρ2 τ2) (hk : ts[k]? = some u) (im : u.imm = true) : (eIx a b).sem ρ = .ok (.v u) ρ2 (τ1 || τ2) := by
  obtain ⟨hlt, _⟩ := List.getElem?_eq_some_iff.mp hk
  refine e_ix h1 h2 rfl rfl rfl rfl ?_
  simp only [ixO, ixN_nat hlt, hk, itemO, im, if_true]
/-- x[j], x a tuple in a slot -/
theorem ix_var {i k : Nat} {ρ : Rho} {ts : List T} {u : T} (h : ρ[i]? = some (some (.tup ts))) (im : T.imms ts = true) (hk : ts[k]? = some u) : (eIx (eVar i) (eInt (k : Int))).sem ρ = .ok (.v u) ρ false :=
  ix_tup (τ1 := false) (τ2 := false) (v_imm h im) rfl hk (imms_get im hk)
theorem ix_vv {i j k : Nat} {ρ : Rho} {ts : List T} {u : T} (h : ρ[i]? = some (some (.tup ts))) (im : T.imms ts = true) (hj : ρ[j]? = some (some (.int (k : Int)))) (hk : ts[k]? = some u) : (eIx (eVar i) (eVar j)).sem ρ = .ok (.v u) ρ false :=
  ix_tup (τ1 := false) (τ2 := false) (v_imm h im) (v_imm hj rfl) hk (imms_get im hk)
theorem e_fldV {cn f : Str} {i : Nat} {ρ : Rho} {t u : T} (h : ρ[i]? = some (some t)) (im : t.imm = true) (hf : fldT cn f t = some u) : (eFld cn f (eVar i)).sem ρ = .ok (.v u) ρ false := e_fld (v_imm h im) rfl rfl hf
theorem e_lenT {a : Ex} {ρ ρ1 : Rho} {ts : List T} {τ : Bool} (h : a.sem ρ = .ok (.v (.tup ts)) ρ1 τ) : (eLen a).sem ρ = .ok (.v (.int ts.length)) ρ1 τ := by
  show opSem [a.sem] (f1 lenT) ρ = _
  unfold opSem
  rw [ev1 h rfl]
  rfl
theorem e_meth {cn m : Str} {F : Fn} {φ : List T → FR} (hF : F.φ = φ) {i : Nat} {a : Xs} {ρ ρ1 ρ2 : Rho} {os : List O} {ts : List T} {r : T} {ρA : Rho} {τ : Bool} (ho : isObj cn m ρ[i]? = true) (h : evL ((eVar i).sem :: a.sems) ρ = .ok os ρ1 τ) (g : getOs ρ1 os = some ts) (hn : ts.length = F.np) (hs : nodupB (slots os) = true) (f : φ ts = .ok r ρA) (w : wb os ρA ρ1 = some ρ2) :
    (eMeth cn m F i a).sem ρ = .ok (.v r) ρ2 (τ || !(slots os).isEmpty) := by
  show methSem cn m i F.np a.sems F.φ ρ = _
  unfold methSem
  rw [if_pos ho]
  unfold effSem
  rw [show varSem i = (eVar i).sem from rfl, h]; simp only; rw [g]; simp only
  rw [if_pos ⟨hs, hn⟩]
  unfold noX
  rw [hF, f]
  unfold effFin
  simp only
  rw [w]
end Pv
set_option Elab.async false
set_option linter.all false
set_option maxRecDepth 100000
set_option maxHeartbeats 400000
/-! Pv part Re: dicts with keys of three numbers, while and for with a tail, small sets. -/
namespace Pv
open PySem L2
theorem v_dct {i : Nat} {ρ : Rho} {kd : Bool} {ks vs : List T} (h : ρ[i]? = some (some (.dct kd ks vs))) : (eVar i).sem ρ = .ok (.p i []) ρ false := by
  show varSem i ρ = _
  unfold varSem
  rw [h]
  rfl
abbrev N3 := Nat × Nat × Nat
def st3 (x : N3) : T := .tup [.int x.1, .int x.2.1, .int x.2.2]
def key3 (x : N3) : List Key := [.inl x.1, .inl x.2.1, .inl x.2.2]
theorem dk_st3 (x : N3) : dk? true (st3 x) = some (key3 x) := rfl
theorem key3_inj {x y : N3} (h : key3 x = key3 y) : x = y := by
  obtain ⟨a, b, c⟩ := x
  obtain ⟨a', b', c'⟩ := y
  simp only [key3, List.cons.injEq, Sum.inl.injEq, and_true] at h
  obtain ⟨h1, h2, h3⟩ := h
  have e1 : a = a' := by omega
  have e2 : b = b' := by omega
  have e3 : c = c' := by omega
  rw [e1, e2, e3]
theorem dix_st3 (L : List N3) (x : N3) : dix true (L.map st3) (key3 x) = L.findIdx? fun y => decide (y = x) := by
  unfold dix
  rw [List.findIdx?_map]
  congr 1
  funext y
  simp only [Function.comp_apply, dk_st3, Option.some.injEq]
  by_cases h : y = x
  · subst h; simp
  · rw [decide_eq_false h, decide_eq_false fun z => h (key3_inj z)]
theorem find_mem {L : List N3} {x : N3} : (L.findIdx? fun y => decide (y = x)).isSome = decide (x ∈ L) := by
  rw [List.findIdx?_isSome, Bool.eq_iff_iff]
  simp
def cnt (n : Nat) : List T := (List.range n).map fun (k : Nat) => T.int k
theorem cnt_succ (n : Nat) : cnt (n + 1) = cnt n ++ [.int n] := by simp [cnt, List.range_succ]
theorem cnt_get {n j : Nat} (h : j < n) : (cnt n)[j]? = some (.int j) := by simp [cnt, h]
theorem cnt_imm (n : Nat) : T.imms (cnt n) = true := imms_of fun t ht => by
  obtain ⟨k, _, rfl⟩ := List.mem_map.mp ht
  rfl
def seen3 (L : List N3) : T := .dct true (L.map st3) (cnt L.length)
theorem in_seen (L : List N3) (x : N3) : inT (st3 x) (seen3 L) = some (decide (x ∈ L)) := by
  show (match dk? true (st3 x) with
    | some k => some (dix true (L.map st3) k).isSome
    | none => none) = _
  rw [dk_st3]
  simp only
  rw [dix_st3, find_mem]
theorem get_seen {L : List N3} {x : N3} (h : x ∈ L) : ∃ j : Nat, (L.findIdx? fun y => decide (y = x)) = some j ∧ j < L.length ∧ dgetT (seen3 L) (st3 x) = some (.int j) := by
  have s := find_mem (L := L) (x := x)
  rw [decide_eq_true h] at s
  cases e : L.findIdx? fun y => decide (y = x) with
  | none => rw [e] at s; cases s
  | some j =>
    have hj : j < L.length := (List.findIdx?_eq_some_iff_getElem.mp e).1
    refine ⟨j, rfl, hj, ?_⟩
    show (match dk? true (st3 x) with
      | some k => match dix true (L.map st3) k with
        | some j => match (cnt L.length)[j]? with
          | some t => if t.imm = true then some t else none
          | none => none
        | none => none
      | none => none) = _
    rw [dk_st3]
    simp only
    rw [dix_st3, e]
    simp only
    rw [cnt_get hj]
    rfl
theorem put_seen {L : List N3} {x : N3} (h : x ∉ L) (hl : L.length < 100000) : dputF [.int L.length, seen3 L, st3 x] = .ok .non [some (.int L.length), some (seen3 (L ++ [x])), some (st3 x)] := by
  have s := find_mem (L := L) (x := x)
  rw [decide_eq_false h] at s
  show (match dk? true (st3 x) with
    | some k => if (T.int L.length).imm = true ∧ T.imms (cnt L.length) = true ∧ (st3 x).imm = true ∧ (L.map st3).length < sizeLine then FR.ok .non [some (.int L.length), some (dputD true k (st3 x) (.int L.length) (L.map st3) (cnt L.length)), some (st3 x)] else .stuck
    | none => .stuck) = _
  rw [dk_st3]
  simp only
  rw [if_pos ⟨rfl, cnt_imm _, rfl, by rw [List.length_map, sizeLine_eq]; omega⟩]
  unfold dputD
  rw [dix_st3, s, if_neg Bool.false_ne_true]
  unfold seen3
  rw [List.map_append, List.length_append, show [x].length = 1 from rfl, cnt_succ]
  rfl
theorem s_dset {i : Nat} {a e : Ex} {ρ : Rho} {kd : Bool} {ks vs : List T} {t s d : T} (ha : a.sem ρ = .ok (.v t) ρ false) (he : e.sem ρ = .ok (.v s) ρ false) (h : ρ[i]? = some (some (.dct kd ks vs))) (hp : dputF [t, .dct kd ks vs, s] = .ok .non [some t, some d, some s]) :
    (sDSet (eVar i) e a).sem ρ = .nx (ρ.set i (some d)) := by
  show effS (effSem 3 [a.sem, (eVar i).sem, e.sem] dputF) ρ = _
  have th : O.there ρ (.p i []) = true := by simp only [O.there, h]
  have ev : evL [a.sem, (eVar i).sem, e.sem] ρ = .ok [.v t, .p i [], .v s] ρ (false || (false || (false || false))) := by
    refine evc ha ?_
    have e2 := evc (τ2 := false) he evn
    have e1 : evL [(eVar i).sem, e.sem] ρ = (match (eVar i).sem ρ with
      | .ok o ρ1 τ1 => match evL [e.sem] ρ1 with
        | .ok os ρ2 τ2 => if (o.deep && τ2) || !o.there ρ2 then .stuck else .ok (o :: os) ρ2 (τ1 || τ2)
        | .ex c t ρ2 => .ex c t ρ2
        | .stuck => .stuck
      | .ex c t ρ1 => .ex c t ρ1
      | .stuck => .stuck) := rfl
    rw [e1, v_dct h]
    simp only
    rw [e2]
    simp only
    rw [if_neg (by simp [O.deep, th])]
  unfold effS effSem
  rw [ev]
  simp only [getOs, getO, h, T.at]
  rw [if_pos ⟨rfl, rfl⟩, hp]
  simp only [effFin, wb, h, T.put]
theorem e_dix {i : Nat} {e : Ex} {ρ : Rho} {kd : Bool} {ks vs : List T} {s u : T} (h : ρ[i]? = some (some (.dct kd ks vs))) (he : e.sem ρ = .ok (.v s) ρ false) (hg : dgetT (.dct kd ks vs) s = some u) : (eDIx (eVar i) e).sem ρ = .ok (.v u) ρ false := by
  show opSem [(eVar i).sem, e.sem] (f2 dgetT) ρ = _
  unfold opSem
  rw [ev2 (v_dct h) he (by simp [O.deep, O.there, h]) rfl]
  simp only [f2, getO, h, T.at, hg]
  rfl
/-! ### while with a tail -/
section
variable {n : Nat} {c : Bx} {b : Bl} {l : List Sx} {ρ ρ1 ρ2 : Rho} {τ : Bool} {t : T}
theorem tw_end (h : c.sem ρ = .ok false ρ1 τ) : (blk (sWhile (n + 1) c b :: l)).sem ρ = (blk l).sem ρ1 := b_nx (s_while.trans (w_end h))
theorem tw_nx (h : c.sem ρ = .ok true ρ1 τ) (h2 : b.sem ρ1 = .nx ρ2) : (blk (sWhile (n + 1) c b :: l)).sem ρ = (blk (sWhile n c b :: l)).sem ρ2 := by
  have e : whileF (n + 1) c.sem b.sem ρ = whileF n c.sem b.sem ρ2 := w_nx h h2
  show seqS (whileF (n + 1) c.sem b.sem) (blk l).sem ρ = seqS (whileF n c.sem b.sem) (blk l).sem ρ2
  unfold seqS
  rw [e]
theorem tw_ret (h : c.sem ρ = .ok true ρ1 τ) (h2 : b.sem ρ1 = .ret t ρ2) : (blk (sWhile (n + 1) c b :: l)).sem ρ = .ret t ρ2 := b_ret (s_while.trans (w_ret h h2))
end
theorem nodup_lt : ∀ (B : Nat) (l : List Nat), l.Nodup → (∀ x ∈ l, x < B) → l.length ≤ B
  | 0, [], _, _ => Nat.le_refl _
  | 0, x :: l, _, h => by have := h x List.mem_cons_self; omega
  | B + 1, l, nd, h => by
    by_cases m : B ∈ l
    · have := nodup_lt B (l.erase B) (nd.erase B) fun x hx => by
        have h1 := h x (List.mem_of_mem_erase hx)
        have h2 : x ≠ B := fun z => by subst z; exact absurd hx (List.Nodup.not_mem_erase nd)
        omega
      rw [List.length_erase_of_mem m] at this
      omega
    · have := nodup_lt B l nd fun x hx => by
        have h1 := h x hx
        have h2 : x ≠ B := fun z => m (z ▸ hx)
        omega
      omega
theorem nodup_map {f : N3 → Nat} : ∀ {L : List N3}, L.Nodup → (∀ x ∈ L, ∀ y ∈ L, f x = f y → x = y) → (L.map f).Nodup
  | [], _, _ => .nil
  | a :: L, nd, h => by
    rw [List.nodup_cons] at nd
    rw [List.map_cons, List.nodup_cons]
    refine ⟨fun z => ?_, nodup_map nd.2 fun x hx y hy => h x (List.mem_cons_of_mem _ hx) y (List.mem_cons_of_mem _ hy)⟩
    obtain ⟨y, hy, e⟩ := List.mem_map.mp z
    have := h a List.mem_cons_self y (List.mem_cons_of_mem _ hy) e.symm
    exact nd.1 (this ▸ hy)
theorem nodup_snoc {L : List N3} {x : N3} (nd : L.Nodup) (h : x ∉ L) : (L ++ [x]).Nodup := by
  rw [List.nodup_append]
  refine ⟨nd, by simp, fun a ha b hb => ?_⟩
  have : b = x := by simpa using hb
  subst this
  exact fun z => h (z ▸ ha)
end Pv
set_option Elab.async false
set_option linter.all false
set_option maxRecDepth 100000
set_option maxHeartbeats 400000
/-! Pv part Rf: a tree is equal to itself. -/
namespace Pv
open PySem L2
def Lay (k : Nat) (t : T) : Prop := PyData.canLay0 t.toD = true ∧ PyData.depth t.toD ≤ k
theorem lays {k : Nat} : ∀ {ts : List T}, (∀ t ∈ ts, Lay k t) → PyData.canLayAll0 (T.toDs ts) = true ∧ PyData.depthAll (T.toDs ts) ≤ k
  | [], _ => ⟨rfl, Nat.zero_le _⟩
  | t :: ts, h => by
    obtain ⟨a1, a2⟩ := h t List.mem_cons_self
    obtain ⟨b1, b2⟩ := lays (ts := ts) fun u hu => h u (List.mem_cons_of_mem _ hu)
    refine ⟨?_, ?_⟩
    · show (PyData.canLay0 t.toD && PyData.canLayAll0 (T.toDs ts)) = true
      rw [a1, b1]; rfl
    · show max (PyData.depth t.toD) (PyData.depthAll (T.toDs ts)) ≤ _
      omega
theorem lay_tup {k : Nat} {ts : List T} (h : ∀ t ∈ ts, Lay k t) : Lay (k + 1) (.tup ts) := by
  obtain ⟨h1, h2⟩ := lays h
  refine ⟨h1, ?_⟩
  show PyData.depthAll (T.toDs ts) + 1 ≤ _
  omega
theorem lay_up {k m : Nat} {t : T} (h : Lay k t) (hm : k ≤ m) : Lay m t := ⟨h.1, Nat.le_trans h.2 hm⟩
theorem lay_int (i : Int) : Lay 0 (.int i) := ⟨rfl, Nat.zero_le _⟩
theorem eqv_nums : ∀ ns : List Int, PyData.eqvAll (ns.map PyData.int) (ns.map PyData.int) = true
  | [] => rfl
  | n :: ns => by
    show (PyData.eqv (.int n) (.int n) && PyData.eqvAll (ns.map PyData.int) (ns.map PyData.int)) = true
    rw [eqv_nums ns]; simp [PyData.eqv]
mutual
theorem eqv_self : ∀ (t : T), PyData.canLay0 t.toD = true → PyData.eqv t.toD t.toD = true
  | .non, _ => rfl
  | .bl b, _ => by simp [T.toD, PyData.eqv]
  | .int i, _ => by simp [T.toD, PyData.eqv]
  | .str s, _ => by simp [T.toD, PyData.eqv]
  | .tup ts, h => eqvs_self ts h
  | .lst ts, h => eqvs_self ts h
  | .fro ns, _ => eqv_nums ns
  | .box, h => by cases h
  | .dct _ _ _, h => by cases h
  | .obj _ _ _, h => by cases h
  | .mob _ _ _, h => by cases h
theorem eqvs_self : ∀ (ts : List T), PyData.canLayAll0 (T.toDs ts) = true → PyData.eqvAll (T.toDs ts) (T.toDs ts) = true
  | [], _ => rfl
  | t :: ts, h => by
    have h' : (PyData.canLay0 t.toD && PyData.canLayAll0 (T.toDs ts)) = true := h
    rw [Bool.and_eq_true] at h'
    show (PyData.eqv t.toD t.toD && PyData.eqvAll (T.toDs ts) (T.toDs ts)) = true
    rw [eqv_self t h'.1, eqvs_self ts h'.2]; rfl
end
theorem eq_lay {t : T} {k : Nat} (h : Lay k t) (hk : k ≤ 64) : eqT t t = some true := by
  have s : SeqAt.shaped t.toD = true := by
    unfold SeqAt.shaped
    rw [h.1, decide_eq_true (Nat.le_trans h.2 hk)]; rfl
  unfold eqT
  rw [if_pos ⟨s, s⟩, eqv_self t h.1]
end Pv
set_option Elab.async false
set_option linter.all false
set_option maxRecDepth 100000
set_option maxHeartbeats 2000000
/-! Pv part Rg: repr of a tuple's tree, where no repr is under way. -/
namespace Pv
open PySem L2
def shows (t : T) : Prop := PyData.canLay0 t.toD = true ∧ t.toD.showable = true ∧ t.toD.hasDict = false ∧ PyData.depth t.toD ≤ 64 ∧ t.toD.shown.length ≤ sizeLine
instance (t : T) : Decidable (shows t) := by unfold shows; infer_instance
def reprT : T → Option T
  | .tup ts => if shows (.tup ts) then some (.str (T.tup ts).toD.shown) else none
  | _ => none
def rRepr (K : PySem.W.Frag) : List V → Hp → VK → Prop := fun xs H Q => ∃ a d, xs = [.ref a] ∧ Dp K H (.ref a) d ∧ d.showable = true ∧ d.hasDict = false ∧ d.depth ≤ 64 ∧ d.shown.length ≤ sizeLine ∧ Q (.str d.shown) H
theorem call_reprD {X : Cx} (hg : X.A.guards = some []) (hu : X.A.units + 100 < cLine) : CallR X (.builtin "repr") (rRepr X.K) := by
  intro pins s σ H xs us Q I r h
  obtain ⟨a, d, rfl, hd, h1, h2, h3, h4, q⟩ := h
  obtain ⟨u, rfl, e⟩ := vals1 r
  obtain rfl : u = Value.ref a := e
  obtain ⟨as, rd⟩ := Dp.reads I d (.ref a) (.ref a) hd rfl
  exact PySem.repr_of_reads' rd h1 (fun z => by rw [h2] at z; cases z) hg (by omega) (fun _ _ e => e) (fun h' u tk k => ⟨.str _, H, I.kept k, ⟨_, rfl⟩, q⟩) h4
def eRepr (a : Ex) : Ex where
  sem := opSem [a.sem] (f1 reprT)
  m := callM "repr" (xs [a])
  pre := fun Γ k => (Γ.mg "repr" = none ∧ Γ.xi.gd = true) ∧ (xs [a]).pre Γ k
  snd := fun {X xi N sc lvl cm W e} g p h => by
    unfold callM at h
    split at h
    · simp only [Bool.and_eq_true, decide_eq_true_eq] at h
      obtain ⟨rfl, h1, h2, h3, h4⟩ := h
      have G := gl_of g.hsc h1
      refine PE.to (pe_callB (call_reprD (g.gu p.1.2) g.un) G.gl p.1.1 (by decide +kernel) ((xs [a]).snd g p.2 h4) G.nn G.db (starEach_of h2) (anyStar_of h3)) fun σ H Q hq => op_to (r := rRepr X.K) (ok1 fun H s u x fx hg rx Q p => ?_) hq
      cases s <;> first | (cases hg; done) | skip
      rename_i ts
      simp only [reprT] at hg
      split at hg
      · rename_i c
        cases hg
        obtain ⟨a, vs, rfl, sq, r⟩ := id rx
        exact ⟨a, _, rfl, rep_dp rx c.1, c.2.1, c.2.2.1, c.2.2.2.1, c.2.2.2.2, p.v ⟨rfl, rfl⟩⟩
      · cases hg
    · cases h
end Pv
set_option Elab.async false
set_option linter.all false
set_option maxRecDepth 100000
set_option maxHeartbeats 2000000
/-! Pv part Rh: C[e], C a module's dict of numbers with texts as keys. -/
namespace Pv
open PySem L2
def tabT (tb : List (Str × Int)) : T → Option T
  | .str z => (tb.lookup z).map .int
  | _ => none
def eKIx (x : Str) (tb : List (Str × Int)) (i : Ex) : Ex where
  sem := opSem [i.sem] (f1 (tabT tb))
  m := fun N sc cm e => match e with
    | .Subscript (.Name y _) b _ => decide (y = x) && (glB sc y && (notSlice b && i.m N sc cm b))
    | _ => false
  pre := fun Γ k => (∃ p, Γ.mg x = some (.ref p) ∧ ∀ z v, tb.lookup z = some v → KDct Γ.K Γ.w p z (.int v)) ∧ i.pre Γ k
  snd := fun {X xi N sc lvl cm W e} g p h => by
    split at h
    · simp only [Bool.and_eq_true, decide_eq_true_eq] at h
      obtain ⟨rfl, h1, h2, h3⟩ := h
      have G := gl_of g.hsc h1
      obtain ⟨⟨q, hm, hk⟩, pi⟩ := p
      refine PE.to (pe_ix ix_kdict (pe_glob (v := .ref q) G.gl hm rfl G.db) (i.snd g pi h3) (plainIx_of h2)) fun σ H Q hq => ?_
      exact op_to (ss := [i.sem]) (r := fun vs H Q => match vs with | [y] => rIxD X.K X.w (.ref q) y H Q | _ => False) (ok1 fun H s u y fy hg ry Q p => by
        cases s <;> first | (cases hg; done) | skip
        rename_i z
        simp only [tabT] at hg
        cases e : tb.lookup z with
        | none => rw [e] at hg; cases hg
        | some v =>
          rw [e] at hg
          cases hg
          obtain ⟨rfl, _⟩ := ry
          exact ⟨q, z, .int v, rfl, rfl, hk z v e, p.v ⟨rfl, rfl⟩⟩) hq
    · cases h
end Pv
set_option Elab.async false
set_option linter.all false
set_option maxRecDepth 100000
set_option maxHeartbeats 2000000
/-! Pv part Ri: isinstance of a caught error that has its own field. -/
namespace Pv
open PySem L2
/-- as rIsE of the hand layer, the error's dict is tracked -/
def rIsD (K : PySem.W.Frag) (C a : Addr) (cls : Value) (d : Option Addr) : List V → Hp → VK → Prop := fun xs H Q => cls = .ref C ∧ ∃ (c : V) (cv : Value) (b : Bool) (dd : Addr) (fs : List (Str × V)), d = some dd ∧ H dd = some (.xd fs) ∧ xs = [.ref a, c] ∧ (∀ u, RelV c u → u = cv) ∧ PySem.W.kitOne K (.ref C) cv = some b ∧ Q (.bl b) H
theorem call_isD {X : Cx} {a C : Addr} {oe : Obj} {cls : Value} {d : Option Addr} {pn : List (Addr × Obj)} (E : ExcC X.K C) (hz : Zc cls d oe) (hf : ∃ vs, oe.data = .fields vs) : CallR (X.suite a ((a, oe) :: pn)) (.builtin "isinstance") (rIsD X.K C a cls d) := by
  intro pins s σ H xs us Q I r h
  obtain ⟨ec, c, cv, b, dd, fs, ed, hd, rfl, hcv, hk, q⟩ := h
  subst ec ed
  cases r with
  | cons rx rr =>
    cases rr with
    | cons rt rr =>
      cases rr
      cases rx
      have ez := hcv _ rt
      subst ez
      obtain ⟨ga, _⟩ := I.pin (a, oe) (List.mem_append_left _ List.mem_cons_self)
      obtain ⟨vs, hv⟩ := hf
      have ok : ObjOk X.prog X.w H s.heap dd (.xd fs) := I.hok dd _ hd
      obtain ⟨mA, hns, _⟩ := ok
      obtain ⟨od, ho, _⟩ := lookIn_ns hns
      have J : PySem.W.InstAt s.heap a oe C (some od) := ⟨ga, hz.1, by unfold PySem.W.notCls; rw [hv] <;> rfl, by rw [hz.2]; exact ho⟩
      have hcl : (PySem.W.clsIn X.K C).isSome = true := by
        obtain ⟨cd, hc, _⟩ := PySem.W.any_some E.hd
        rw [hc]; rfl
      exact PySem.W.kia_one (PySem.W.kitx_exc hcl E.hg E.hk E.hs E.ha E.hn E.ht E.hm) I.kIn J hk (fun z => nomatch z) fun tk => ⟨.bl b, H, I.kept (t' := tk) fun _ _ z => z, rfl, q⟩
end Pv
set_option Elab.async false
set_option linter.all false
set_option maxRecDepth 100000
set_option maxHeartbeats 4000000
/-! Pv part Rj: try: body / except C as e: if A or e.f op b or not isinstance(e, D): return False; the way on which all three are false. -/
namespace Pv
open PySem L2
def tryIfS (c i : Nat) (op : CmpOp) (body : Rho → RS) (A : Rho → RB) (b : Rho → R) : Rho → RS := fun ρ => match body ρ with
  | .ex c' t ρ' => if c' = c ∧ i < ρ'.length then (match A (ρ'.set i none) with
      | .ok false ρ1 false => (match b ρ1 with
        | .ok o ρ2 false => match f2 (cmpV op) ρ2 [.v t, o] with
          | some (.bl false) => .nx ρ2
          | _ => .stuck
        | _ => .stuck)
      | _ => .stuck) else .stuck
  | r => r
def isErr (n : Str) (dn : Str) (sc : Scope) : Expr → Bool
  | .UnaryOp .Not (.Call (.Name y _) [.Name n3 _, .Name z _] [] _) _ => decide (y = "isinstance") && (glB sc y && (decide (n3 = n) && (decide (z = dn) && glB sc z)))
  | _ => false
def sTryIf (c : Nat) (cn : Str) (i : Nat) (f : Str) (op : CmpOp) (dn : Str) (body : Bl) (A : Bx) (b : Ex) : Sx where
  sem := tryIfS c i op body.sem A.sem b.sem
  asg := i :: body.asg
  m := fun N sc cm s => match s with
    | .Try bd [.ExceptHandler (some (.Name x _)) (some n) [.If (.BoolOp .Or [q1, .Compare (.Attribute (.Name n2 p1) fld p2) [o] [y] p3, .UnaryOp .Not (.Call (.Name w1 _) [.Name n3 _, .Name z _] [] _) _] _) [.Return (some (.Constant (.bool false) _ _)) _] [] _] _] [] [] _ =>
      cm && (decide (x = cn) && (glB sc x && (decide (N[i]? = some n) && (decide (sc.names.lookup n = some .local) && (nmB N sc i n2 && (decide (fld = f) && (decide (o = op) && (notSet y && (body.m N sc true bd && (b.m N sc false y && (A.m N sc false q1 &&
        (decide (w1 = "isinstance") && (glB sc w1 && (nmB N sc i n3 && (decide (z = dn) && glB sc z)))))))))))))))
    | _ => false
  pre := fun Γ k => XOk Γ c cn ∧ Γ.xi.xf c = f ∧ body.pre Γ k ∧ b.pre Γ k ∧ A.pre Γ k ∧ Γ.mg "isinstance" = none ∧ (∃ D, Γ.mg dn = some (.ref D) ∧ PySem.W.kitOne Γ.K (.ref (Γ.xi.xc c)) (.ref D) = some true) ∧ ExcC Γ.K (Γ.xi.xc c)
  snd := fun {X xi N sc lvl cm W x} g p h => by
    split at h
    · rename_i bd x _ n q1 n2 p1 fld p2 o y p3 w1 _ n3 _ z _ _ _ _ _ _ _ _ _ _
      simp only [Bool.and_eq_true, decide_eq_true_eq] at h
      obtain ⟨hc, rfl, h1, h2, h3, h4, rfl, rfl, h5, h6, h7, h8, rfl, h9, h10, rfl, h11⟩ := h
      obtain ⟨⟨qual, f', msg, fI, cc, cda, T, hf'⟩, hf, pb, pe, pA, pi, ⟨D2, hD2, hkit⟩, EC⟩ := p
      have : f' = fld := hf'.symm.trans hf
      subst this
      have G := gl_of g.hsc h1
      have GI := gl_of g.hsc h9
      have GD := gl_of g.hsc h11
      have hcalm := g.hcm hc
      have hr : Room lvl X.A := g.room hc
      let rq := fun (a : Addr) (pn : List (Addr × Obj)) => op_cmp (X := X.suite a pn) g.un o
      let tI : Addr → Value → Option Addr → TT := fun a cls d σ H Q => (tCB (rIsD X.K (xi.xc c) a cls d) (tCons (tVar i) (tCons (fun σ H Q => Q (.ref D2) H) tNil))) σ H fun x H' => ∃ k, TruV X.K x H' k ∧ Q k H'
      let ts : Addr → Value → Option Addr → TS := fun a cls d D σ H => ∀ pn, tIfS (tOr (tT X.K xi W0 A.sem) (tOr (tTest (tOp (rq a pn).choose (tXf a cls d (xi.xc c) f' (tVar i)) (tE X.K xi W0 b.sem))) (tNot (tI a cls d)))) tNever tNext D σ H
      have XT : XfC X.K (xi.xc c) := ⟨T.ga, T.gg, T.exC, T.hdC⟩
      refine PS.to (ps_try_as (c := .ref (xi.xc c)) (i := i) (Wout := W) (tb := fun W' => tS X.K xi W' body.asg body.sem) (ts := ts) g.hst g.hfr (by rw [g.hN]; exact g.nd) (by rw [g.hN]; exact h2) (by show X.env.scope.names.lookup n = _; rw [g.hsc]; exact h3)
        ⟨G.gl, G.db, .inl T.gC⟩ g.tk (fun W' pn xe tk po => ?_) (fun a oe cls d pn hz hfl => ?_)) fun D σ H hq => ?_
      · exact body.snd (X := X.tr pn xe) (sc := sc) (cm := true) (W := W') ⟨⟨g.hN, g.nd, g.hsc, fun _ => hcalm, fun _ => hr, g.un, tk, g.gu⟩, g.fnok, po, g.hst, g.hfr⟩ pb h6
      · have gd : Gd (X.suite a ((a, oe) :: pn)) xi N sc lvl false W0 := ⟨g.hN, g.nd, g.hsc, fun z => (by cases z), fun z => (by cases z), g.un, takes0, g.gu⟩
        refine pss_one (PS.to (ps_if (pw_or (A.snd gd pA h8) (pw_or (pt_cmpR (rq a ((a, oe) :: pn)).choose_spec.1 (pe_xf XT T.noN hz hfl (nm_of (X := X.suite a ((a, oe) :: pn)) g.hN g.hsc h4)) (b.snd gd pe h7) (bim_of h5)) (pw_or1 (pt_not (pt_truth (pe_callB (call_isD EC hz hfl) GI.gl pi (by decide +kernel) (pa_cons (nm_of (X := X.suite a ((a, oe) :: pn)) g.hN g.hsc h10) (pa_cons (pe_glob (v := .ref D2) GD.gl hD2 rfl GD.db) pa_nil rfl) rfl) GI.nn GI.db rfl rfl) (fun _ => rfl)))))).pt pss_never pss_nil) fun D σ H q => q _)
      · obtain ⟨ρ, fp, e, hq⟩ := hq
        refine ⟨ρ, fp, e, ?_⟩
        simp only [tryIfS] at hq
        cases hs : body.sem ρ with
        | stuck => rw [hs] at hq; exact hq.elim
        | nx ρ1 => rw [hs] at hq; exact postS.less (asg' := i :: body.asg) (fun j z => List.mem_cons_of_mem _ z) hq
        | ret t ρ1 => rw [hs] at hq; exact postS.less (asg' := i :: body.asg) (fun j z => List.mem_cons_of_mem _ z) hq
        | bk ρ1 => rw [hs] at hq; exact postS.less (asg' := i :: body.asg) (fun j z => List.mem_cons_of_mem _ z) hq
        | ct ρ1 => rw [hs] at hq; exact postS.less (asg' := i :: body.asg) (fun j z => List.mem_cons_of_mem _ z) hq
        | ex c' t ρ' =>
          rw [hs] at hq
          simp only at hq
          by_cases cq : c' = c ∧ i < ρ'.length
          case neg => rw [if_neg cq] at hq; exact hq.elim
          rw [if_pos cq] at hq
          obtain ⟨rfl, hi0⟩ := cq
          intro d σ1 H1 fp1 e1 s1 ag1 xr
          refine ⟨true, T.te, fun _ a ha pn => ?_, fun z => by cases z⟩
          obtain ⟨fs, w, hd, hl, rw', him⟩ := xr
          have hi : i < σ1.length := by rw [e1.len]; exact hi0
          refine ⟨ρ'.set i none, _, e1.unset i _, ?_⟩
          have su : Step fp1 H1 (fun j => if j = i then [] else fp1 j) [] H1 := ⟨fun a o z _ => z, fun a z => .inl (z.elim (fun z => by obtain ⟨j, _, q⟩ := in_empty z; exact ⟨j, q⟩) fun z => by cases z), .nil, fun _ z => by cases z⟩
          split at hq <;> try exact hq.elim
          rename_i ρ1 hA
          split at hq <;> try exact hq.elim
          rename_i o2 ρ2 hb
          split at hq <;> try exact hq.elim
          rename_i hv
          rw [hA]
          intro H2 fp2 e2 s2 q2
          obtain ⟨rfl, rfl, k2⟩ := q2 rfl
          refine ⟨.ref a, List.getElem?_set_self hi, rfl, rfl, d, fs, w, rfl, k2 _ _ hd, by rw [← hf]; exact hl, ?_⟩
          refine ⟨ρ'.set i none, _, e2, ?_⟩
          rw [hb]
          intro v2 H3 fp3 fo3 e3 s3 q3 r3
          obtain ⟨rfl, rfl, k3⟩ := q3 rfl
          have rw3 : Rep X.K H3 t w [] := (rw'.ext k2).ext k3
          refine (rq a pn).choose_spec.2 _ _ _ H3 [.v t, o2] [w, v2] fo3 (.bl false) e3 ⟨w, [v2], [], fo3, rfl, by simp, rw3, v2, [], fo3, [], rfl, by simp, r3, rfl, rfl⟩ s3.nd hv _ fun v3 H4 fo4 k4 r4 sub4 nd4 => ?_
          obtain ⟨rfl, rfl⟩ := r4
          refine ⟨false, rfl, ?_⟩
          refine ⟨.ref a, List.getElem?_set_self hi, rfl, .ref D2, .ref D2, true, d, fs, rfl, k4 _ _ (k3 _ _ (k2 _ _ hd)), rfl, fun u r => r, hkit, true, rfl, ?_⟩
          show D.nx ((σ1.set i (some (.ref a))).set i none) H4
          rw [List.set_set]
          refine hq _ H4 _ ((((e1.unset i none).ext k2).ext k3).ext k4) (((s1.trans0 su).trans0 s2).trans0 (s3.drop.trans0 (Step.ext k4))) (fun j hj => ?_)
          have hj' : j ≠ i ∧ j ∉ body.asg := by simpa using hj
          rw [List.getElem?_set_ne (Ne.symm hj'.1)]
          exact ag1 j hj'.2

    · cases h
end Pv
set_option Elab.async false
set_option linter.all false
set_option maxRecDepth 100000
set_option maxHeartbeats 2000000
/-! k81: the defs as terms, and their checks. Printed by gen.py. -/
namespace K81
open PySem L2 Pv
abbrev T := Pv.T
def top (i : Nat) : Stmt := PySem.Challenge.pw_wishweather_k81_edits.main.body.getD i (.Pass ⟨0, 0, 0, 0⟩)
def FUEL : Nat := 1000000000
def DEPTH : Nat := 70
/-! ### _law_begin -/
abbrev N_law_begin : List Str := ["script"]
def b_law_begin : Bl := blk [sRet (eLst (xs [(eInt 0), (eInt 0), (eInt 0), (eInt 0), (eList (eSlH (eVar 0) (eInt 63)))]))]
def φ_law_begin : List T → FR := fnSem 1 b_law_begin
def F_law_begin : Fn := ⟨"_law_begin", 1, φ_law_begin⟩
theorem E_law_begin : F_law_begin = ⟨"_law_begin", 1, fnSem 1 b_law_begin⟩ := by unfold F_law_begin φ_law_begin; rfl
theorem D_law_begin : DefOk (top 10) N_law_begin ["script"] b_law_begin := ⟨⟨rfl, rfl, rfl, by decide +kernel, rfl, by decide +kernel, by decide +kernel⟩, by kernel_rfl⟩
/-! ### _law_draw -/
abbrev N_law_draw : List Str := ["d", "many", "cell", "number", "digit", "mixed"]
def b_law_draw : Bl := blk [sIf (bCmp .Lt (eVar 1) (eInt 2)) (blk [sRet (eInt 0)]) (blk []),
  sIf (bAnd [(bCmp .Eq (eIx (eVar 0) (eInt 1)) (eInt 0)), (bCmp .Lt (eIx (eVar 0) (eInt 2)) (eLen (eIx (eVar 0) (eInt 4))))]) (blk [sSet (gN 2) (eIx (eIx (eVar 0) (eInt 4)) (eIx (eVar 0) (eInt 2))),
  sSetIx (eVar 0) (eInt 2) (eBin .Add (eIx (eVar 0) (eInt 2)) (eInt 1)),
  sSet (gN 3) (eIf (bCmp .GtE (eVar 2) (eInt 0)) (eVar 2) (eNeg (eVar 2))),
  sIf (bCmp .GtE (eVar 3) (eBin .Pow (eInt 10) (eInt 18))) (blk [sSetIx (eVar 0) (eInt 1) (eVar 3)]) (blk [sSetIx (eVar 0) (eInt 0) (eBin .Mod (eIntT (eBin .Add (eBin .Add (eBin .Mult (eIx (eVar 0) (eInt 0)) (eInt 69621)) (eBin .Mult (eVar 3) (eInt 48271))) (eInt 12345))) (eInt 2147483647))])]) (blk []),
  sIf (bCmp .Gt (eIx (eVar 0) (eInt 1)) (eInt 0)) (blk [sSet (gN 4) (eBin .Mod (eIntT (eIx (eVar 0) (eInt 1))) (eVar 1)),
  sSetIx (eVar 0) (eInt 1) (eBin .FloorDiv (eIx (eVar 0) (eInt 1)) (eVar 1)),
  sRet (eVar 4)]) (blk []),
  sSetIx (eVar 0) (eInt 3) (eBin .Add (eIx (eVar 0) (eInt 3)) (eInt 1)),
  sSetIx (eVar 0) (eInt 0) (eBin .Mod (eIntT (eBin .Add (eBin .Add (eBin .Mult (eIx (eVar 0) (eInt 0)) (eInt 48271)) (eBin .Mult (eIx (eVar 0) (eInt 3)) (eInt 7919))) (eInt 11))) (eInt 2147483647)),
  sSet (gN 5) (eBin .Mod (eIntT (eBin .Add (eBin .Mult (eIx (eVar 0) (eInt 0)) (eIx (eVar 0) (eInt 0))) (eIx (eVar 0) (eInt 3)))) (eInt 2147483629)),
  sRet (eBin .Mod (eIntT (eBin .FloorDiv (eVar 5) (eInt 7))) (eVar 1))]
def φ_law_draw : List T → FR := fnSem 6 b_law_draw
def F_law_draw : Fn := ⟨"_law_draw", 2, φ_law_draw⟩
theorem E_law_draw : F_law_draw = ⟨"_law_draw", 2, fnSem 6 b_law_draw⟩ := by unfold F_law_draw φ_law_draw; rfl
theorem D_law_draw : DefOk (top 11) N_law_draw ["d", "many"] b_law_draw := ⟨⟨rfl, rfl, rfl, by decide +kernel, rfl, by decide +kernel, by decide +kernel⟩, by kernel_rfl⟩
/-! ### _law_pick -/
abbrev N_law_pick : List Str := ["d", "row"]
def b_law_pick : Bl := blk [sRet (eIx (eVar 1) (eCall F_law_draw (xs [(eVar 0), (eLen (eVar 1))])))]
def φ_law_pick : List T → FR := fnSem 2 b_law_pick
def F_law_pick : Fn := ⟨"_law_pick", 2, φ_law_pick⟩
theorem E_law_pick : F_law_pick = ⟨"_law_pick", 2, fnSem 2 b_law_pick⟩ := by unfold F_law_pick φ_law_pick; rfl
theorem D_law_pick : DefOk (top 12) N_law_pick ["d", "row"] b_law_pick := ⟨⟨rfl, rfl, rfl, by decide +kernel, rfl, by decide +kernel, by decide +kernel⟩, by kernel_rfl⟩
/-! ### _law_hosts -/
abbrev N_law_hosts : List Str := ["d", "many", "switches", "tenants", "found", "host", "tenant"]
def b_law_hosts : Bl := blk [sSet (gN 4) (eLst (xs [])),
  sFor (gN 5) (iRange1 (eVar 1)) (blk [sSet (gN 6) (eCall F_law_pick (xs [(eVar 0), (eVar 3)])),
  sExpr (eAppend (eVar 4) (eTup (xs [(eCall F_law_draw (xs [(eVar 0), (eVar 2)])), (eVar 6), (eInt 0)])))]),
  sRet (eVar 4)]
def φ_law_hosts : List T → FR := fnSem 7 b_law_hosts
def F_law_hosts : Fn := ⟨"_law_hosts", 4, φ_law_hosts⟩
theorem E_law_hosts : F_law_hosts = ⟨"_law_hosts", 4, fnSem 7 b_law_hosts⟩ := by unfold F_law_hosts φ_law_hosts; rfl
theorem D_law_hosts : DefOk (top 19) N_law_hosts ["d", "many", "switches", "tenants"] b_law_hosts := ⟨⟨rfl, rfl, rfl, by decide +kernel, rfl, by decide +kernel, by decide +kernel⟩, by kernel_rfl⟩
/-! ### _law_first_policy -/
abbrev N_law_first_policy : List Str := ["w", "rows", "host", "lots", "wish", "data", "k"]
def b_law_first_policy : Bl := blk [sSet (gN 1) (eLst (xs [])),
  sFor (gN 2) (iRange1 (eLen (eIx (eVar 0) (eInt 4)))) (blk [sSetLcC 3 ⟨[4], (gN 4), (iSeq (eIx (eVar 0) (eInt 5))), none, (eInt 0)⟩,
  sFor (gN 5) (iRange1 (eBin .LShift (eInt 1) (eIx (eVar 0) (eInt 0)))) (blk [sFor (gN 6) (iRange1 (eLen (eIx (eVar 0) (eInt 5)))) (blk [sSet (gN 4) (eIx (eIx (eVar 0) (eInt 5)) (eVar 6)),
  sIf (bAnd [(bCmp .Eq (eIx (eVar 4) (eInt 0)) (eVar 2)), (bCmp .Eq (eBin .BitAnd (eVar 5) (eIx (eVar 4) (eInt 2))) (eIx (eVar 4) (eInt 3)))]) (blk [sSetIx (eVar 3) (eVar 6) (eBin .BitOr (eIx (eVar 3) (eVar 6)) (eBin .LShift (eInt 1) (eVar 5))),
  sBreak]) (blk [])])]),
  sExpr (eAppend (eVar 1) (eTuple (eLc ⟨[6], (gN 6), (iRange1 (eLen (eVar 3))), (some (bCmp .Gt (eIx (eVar 3) (eVar 6)) (eInt 0))), (eTup (xs [(eVar 6), (eIx (eVar 3) (eVar 6))]))⟩)))]),
  sRet (eTuple (eVar 1))]
def φ_law_first_policy : List T → FR := fnSem 7 b_law_first_policy
def F_law_first_policy : Fn := ⟨"_law_first_policy", 1, φ_law_first_policy⟩
theorem E_law_first_policy : F_law_first_policy = ⟨"_law_first_policy", 1, fnSem 7 b_law_first_policy⟩ := by unfold F_law_first_policy φ_law_first_policy; rfl
theorem D_law_first_policy : DefOk (top 22) N_law_first_policy ["w"] b_law_first_policy := ⟨⟨rfl, rfl, rfl, by decide +kernel, rfl, by decide +kernel, by decide +kernel⟩, by kernel_rfl⟩
/-! ### _law_shuffled -/
abbrev N_law_shuffled : List Str := ["d", "row", "left", "found", "step"]
def b_law_shuffled : Bl := blk [sSet (gN 2) (eList (eVar 1)),
  sSet (gN 3) (eLst (xs [])),
  sFor (gN 4) (iRange1 (eLen (eVar 1))) (blk [sExpr (eAppend (eVar 3) (ePopAt (eVar 2) (eCall F_law_draw (xs [(eVar 0), (eLen (eVar 2))]))))]),
  sRet (eVar 3)]
def φ_law_shuffled : List T → FR := fnSem 5 b_law_shuffled
def F_law_shuffled : Fn := ⟨"_law_shuffled", 2, φ_law_shuffled⟩
theorem E_law_shuffled : F_law_shuffled = ⟨"_law_shuffled", 2, fnSem 5 b_law_shuffled⟩ := by unfold F_law_shuffled φ_law_shuffled; rfl
theorem D_law_shuffled : DefOk (top 14) N_law_shuffled ["d", "row"] b_law_shuffled := ⟨⟨rfl, rfl, rfl, by decide +kernel, rfl, by decide +kernel, by decide +kernel⟩, by kernel_rfl⟩
/-! ### _law_rare -/
abbrev N_law_rare : List Str := ["d", "many"]
def b_law_rare : Bl := blk [sRet (eCmp .Eq (eCall F_law_draw (xs [(eVar 0), (eVar 1)])) (eBin .FloorDiv (eVar 1) (eInt 2)))]
def φ_law_rare : List T → FR := fnSem 2 b_law_rare
def F_law_rare : Fn := ⟨"_law_rare", 2, φ_law_rare⟩
theorem E_law_rare : F_law_rare = ⟨"_law_rare", 2, fnSem 2 b_law_rare⟩ := by unfold F_law_rare φ_law_rare; rfl
theorem D_law_rare : DefOk (top 13) N_law_rare ["d", "many"] b_law_rare := ⟨⟨rfl, rfl, rfl, by decide +kernel, rfl, by decide +kernel, by decide +kernel⟩, by kernel_rfl⟩
/-! ### _law_links -/
abbrev N_law_links : List Str := ["d", "many", "extra", "pairs", "switch", "left", "one", "other", "step", "found"]
def b_law_links : Bl := blk [sSet (gN 3) (eLst (xs [])),
  sFor (gN 4) (iRange2 (eInt 1) (eVar 1)) (blk [sIf (bNot (bTruth (eCall F_law_rare (xs [(eVar 0), (eInt 12)])))) (blk [sExpr (eAppend (eVar 3) (eTup (xs [(eCall F_law_draw (xs [(eVar 0), (eVar 4)])), (eVar 4)])))]) (blk [])]),
  sSet (gN 5) (eLst (xs [])),
  sFor (gN 6) (iRange1 (eVar 1)) (blk [sFor (gN 7) (iRange2 (eBin .Add (eVar 6) (eInt 1)) (eVar 1)) (blk [sIf (bCmp .NotIn (eTup (xs [(eVar 6), (eVar 7)])) (eVar 3)) (blk [sExpr (eAppend (eVar 5) (eTup (xs [(eVar 6), (eVar 7)])))]) (blk [])])]),
  sFor (gN 8) (iRange1 (eVar 2)) (blk [sIf (bCmp .Gt (eLen (eVar 5)) (eInt 0)) (blk [sExpr (eAppend (eVar 3) (ePopAt (eVar 5) (eCall F_law_draw (xs [(eVar 0), (eLen (eVar 5))]))))]) (blk [])]),
  sSet (gN 9) (eLst (xs [])),
  sFor (gT [6, 7]) (iSeq (eCall F_law_shuffled (xs [(eVar 0), (eVar 3)]))) (blk [sExpr (eAppend (eVar 9) (eIf (bCmp .Eq (eCall F_law_draw (xs [(eVar 0), (eInt 2)])) (eInt 0)) (eTup (xs [(eVar 6), (eVar 7)])) (eTup (xs [(eVar 7), (eVar 6)]))))]),
  sRet (eVar 9)]
def φ_law_links : List T → FR := fnSem 10 b_law_links
def F_law_links : Fn := ⟨"_law_links", 3, φ_law_links⟩
theorem E_law_links : F_law_links = ⟨"_law_links", 3, fnSem 10 b_law_links⟩ := by unfold F_law_links φ_law_links; rfl
theorem D_law_links : DefOk (top 18) N_law_links ["d", "many", "extra"] b_law_links := ⟨⟨rfl, rfl, rfl, by decide +kernel, rfl, by decide +kernel, by decide +kernel⟩, by kernel_rfl⟩
/-! ### _law_cube -/
abbrev N_law_cube : List Str := ["d", "bits", "care"]
def b_law_cube : Bl := blk [sSet (gN 2) (eCall F_law_draw (xs [(eVar 0), (eBin .LShift (eInt 1) (eVar 1))])),
  sRet (eTup (xs [(eVar 2), (eBin .BitAnd (eCall F_law_draw (xs [(eVar 0), (eBin .LShift (eInt 1) (eVar 1))])) (eVar 2))]))]
def φ_law_cube : List T → FR := fnSem 3 b_law_cube
def F_law_cube : Fn := ⟨"_law_cube", 2, φ_law_cube⟩
theorem E_law_cube : F_law_cube = ⟨"_law_cube", 2, fnSem 3 b_law_cube⟩ := by unfold F_law_cube φ_law_cube; rfl
theorem D_law_cube : DefOk (top 17) N_law_cube ["d", "bits"] b_law_cube := ⟨⟨rfl, rfl, rfl, by decide +kernel, rfl, by decide +kernel, by decide +kernel⟩, by kernel_rfl⟩
/-! ### _law_targets -/
abbrev N_law_targets : List Str := ["w", "host", "found", "other", "pair"]
def b_law_targets : Bl := blk [sSet (gN 2) (eLst (xs [])),
  sFor (gN 3) (iRange1 (eLen (eIx (eVar 0) (eInt 4)))) (blk [sSet (gN 4) (eTup (xs [(eIx (eIx (eIx (eVar 0) (eInt 4)) (eVar 1)) (eInt 1)), (eIx (eIx (eIx (eVar 0) (eInt 4)) (eVar 3)) (eInt 1))])),
  sIf (bAnd [(bCmp .NotEq (eVar 3) (eVar 1)), (bOr [(bCmp .Eq (eIx (eVar 4) (eInt 0)) (eIx (eVar 4) (eInt 1))), (bCmp .Eq (eIx (eVar 4) (eInt 0)) (eStr "all")), (bCmp .Eq (eIx (eVar 4) (eInt 1)) (eStr "all"))])]) (blk [sExpr (eAppend (eVar 2) (eVar 3))]) (blk [])]),
  sRet (eVar 2)]
def φ_law_targets : List T → FR := fnSem 5 b_law_targets
def F_law_targets : Fn := ⟨"_law_targets", 2, φ_law_targets⟩
theorem E_law_targets : F_law_targets = ⟨"_law_targets", 2, fnSem 5 b_law_targets⟩ := by unfold F_law_targets φ_law_targets; rfl
theorem D_law_targets : DefOk (top 20) N_law_targets ["w", "host"] b_law_targets := ⟨⟨rfl, rfl, rfl, by decide +kernel, rfl, by decide +kernel, by decide +kernel⟩, by kernel_rfl⟩
/-! ### _law_wish -/
abbrev N_law_wish : List Str := ["d", "w", "most_via", "most_spare", "host", "care", "value", "targets", "target", "via", "step", "avoid", "end", "setting"]
def b_law_wish : Bl := blk [sSet (gN 4) (eCall F_law_draw (xs [(eVar 0), (eLen (eIx (eVar 1) (eInt 4)))])),
  sSet (gT [5, 6]) (eCall F_law_cube (xs [(eVar 0), (eIx (eVar 1) (eInt 0))])),
  sIf (bCmp .Gt (eCall F_law_draw (xs [(eVar 0), (eInt 3)])) (eInt 0)) (blk [sSet (gN 5) (eBin .BitAnd (eVar 5) (eCall F_law_draw (xs [(eVar 0), (eBin .LShift (eInt 1) (eIx (eVar 1) (eInt 0)))]))),
  sSet (gN 6) (eBin .BitAnd (eVar 6) (eVar 5))]) (blk []),
  sSet (gN 7) (eCall F_law_targets (xs [(eVar 1), (eVar 4)])),
  sIf (bOr [(bCmp .Eq (eLen (eVar 7)) (eInt 0)), (bTruth (eCall F_law_rare (xs [(eVar 0), (eInt 9)])))]) (blk [sRet (eTup (xs [(eVar 4), eNon, (eVar 5), (eVar 6), (eTup (xs [])), (eInt 0), (eInt 0), (eInt 0), (eInt 0)]))]) (blk []),
  sSet (gN 8) (eCall F_law_pick (xs [(eVar 0), (eVar 7)])),
  sSet (gN 9) (eTuple (eLc ⟨[10], (gN 10), (iRange1 (eCall F_law_draw (xs [(eVar 0), (eBin .Add (eVar 2) (eInt 1))]))), none, (eCall F_law_draw (xs [(eVar 0), (eIx (eVar 1) (eInt 2))]))⟩)),
  sSet (gN 11) (eInt 0),
  sIf (bCmp .Eq (eCall F_law_draw (xs [(eVar 0), (eInt 3)])) (eInt 0)) (blk [sSet (gN 11) (eBin .LShift (eInt 1) (eCall F_law_draw (xs [(eVar 0), (eIx (eVar 1) (eInt 2))])))]) (blk []),
  sFor (gN 12) (iSeq (eBin .Add (eLst (xs [(eIx (eIx (eIx (eVar 1) (eInt 4)) (eVar 4)) (eInt 0)), (eIx (eIx (eIx (eVar 1) (eInt 4)) (eVar 8)) (eInt 0))])) (eList (eVar 9)))) (blk [sSet (gN 11) (eBin .BitAnd (eVar 11) (eBin .Sub (eNeg (eInt 1)) (eBin .LShift (eInt 1) (eVar 12))))]),
  sSet (gN 13) (eTup (xs [(eInt 0), (eInt 0)])),
  sIf (bCmp .Eq (eCall F_law_draw (xs [(eVar 0), (eInt 2)])) (eInt 0)) (blk [sSet (gN 13) (eCall F_law_cube (xs [(eVar 0), (eIx (eVar 1) (eInt 0))]))]) (blk []),
  sRet (eTup (xs [(eVar 4), (eVar 8), (eVar 5), (eVar 6), (eVar 9), (eVar 11), (eIx (eVar 13) (eInt 0)), (eIx (eVar 13) (eInt 1)), (eCall F_law_draw (xs [(eVar 0), (eBin .Add (eVar 3) (eInt 1))]))]))]
def φ_law_wish : List T → FR := fnSem 14 b_law_wish
def F_law_wish : Fn := ⟨"_law_wish", 4, φ_law_wish⟩
theorem E_law_wish : F_law_wish = ⟨"_law_wish", 4, fnSem 14 b_law_wish⟩ := by unfold F_law_wish φ_law_wish; rfl
theorem D_law_wish : DefOk (top 21) N_law_wish ["d", "w", "most_via", "most_spare"] b_law_wish := ⟨⟨rfl, rfl, rfl, by decide +kernel, rfl, by decide +kernel, by decide +kernel⟩, by kernel_rfl⟩
/-! ### _law_world -/
abbrev N_law_world : List Str := ["d", "switches", "extra", "hosts", "wishes", "data", "marks", "most_via", "most_spare", "w", "tenants", "step", "switch", "whole"]
def b_law_world : Bl := blk [sSet (gN 9) (eLst (xs [(eVar 5), (eVar 6), (eVar 1), (eCall F_law_links (xs [(eVar 0), (eVar 1), (eVar 2)])), (eLst (xs [])), (eLst (xs [])), (eTup (xs [])), (eLst (xs [])), (eLst (xs [])), (eDict0 false)])),
  sSet (gN 10) (eIf (bCmp .Eq (eCall F_law_draw (xs [(eVar 0), (eInt 2)])) (eInt 0)) (eLst (xs [(eStr "red")])) (eLst (xs [(eStr "red"), (eStr "red"), (eStr "blue"), (eStr "all")]))),
  sSetIx (eVar 9) (eInt 4) (eCall F_law_hosts (xs [(eVar 0), (eVar 3), (eVar 1), (eVar 10)])),
  sSetIx (eVar 9) (eInt 5) (eLc ⟨[11], (gN 11), (iRange1 (eVar 4)), none, (eCall F_law_wish (xs [(eVar 0), (eVar 9), (eVar 7), (eVar 8)]))⟩),
  sSetIx (eVar 9) (eInt 6) (eCall F_law_first_policy (xs [(eVar 9)])),
  sSetIx (eVar 9) (eInt 7) (eLc ⟨[12], (gN 12), (iRange1 (eVar 1)), none, (eInt 400)⟩),
  sSet (gN 13) (eBin .Sub (eBin .LShift (eInt 1) (eBin .Add (eVar 5) (eVar 6))) (eInt 1)),
  sSetIx (eVar 9) (eInt 8) (eLc ⟨[12], (gN 12), (iRange1 (eVar 1)), none, (eTup (xs [(eVar 13), (eVar 13), (eInt 8), (eInt 0)]))⟩),
  sRet (eVar 9)]
def φ_law_world : List T → FR := fnSem 14 b_law_world
def F_law_world : Fn := ⟨"_law_world", 9, φ_law_world⟩
theorem E_law_world : F_law_world = ⟨"_law_world", 9, fnSem 14 b_law_world⟩ := by unfold F_law_world φ_law_world; rfl
theorem D_law_world : DefOk (top 23) N_law_world ["d", "switches", "extra", "hosts", "wishes", "data", "marks", "most_via", "most_spare"] b_law_world := ⟨⟨rfl, rfl, rfl, by decide +kernel, rfl, by decide +kernel, by decide +kernel⟩, by kernel_rfl⟩
/-! ### _law_small -/
abbrev N_law_small : List Str := ["d", "switches", "hosts", "wishes"]
def b_law_small : Bl := blk [sSet (gN 1) (eBin .Add (eInt 2) (eCall F_law_draw (xs [(eVar 0), (eInt 3)]))),
  sSet (gN 2) (eBin .Add (eInt 2) (eCall F_law_draw (xs [(eVar 0), (eInt 2)]))),
  sSet (gN 3) (eBin .Add (eInt 1) (eCall F_law_draw (xs [(eVar 0), (eInt 3)]))),
  sRet (eCall F_law_world (xs [(eVar 0), (eVar 1), (eCall F_law_draw (xs [(eVar 0), (eInt 3)])), (eVar 2), (eVar 3), (eBin .Add (eInt 1) (eCall F_law_draw (xs [(eVar 0), (eInt 2)]))), (eInt 4), (eInt 1), (eInt 1)]))]
def φ_law_small : List T → FR := fnSem 4 b_law_small
def F_law_small : Fn := ⟨"_law_small", 1, φ_law_small⟩
theorem E_law_small : F_law_small = ⟨"_law_small", 1, fnSem 4 b_law_small⟩ := by unfold F_law_small φ_law_small; rfl
theorem D_law_small : DefOk (top 24) N_law_small ["d"] b_law_small := ⟨⟨rfl, rfl, rfl, by decide +kernel, rfl, by decide +kernel, by decide +kernel⟩, by kernel_rfl⟩
/-! ### _law_pool -/
abbrev N_law_pool : List Str := []
def b_law_pool : Bl := blk [sRet (eLst (xs [(eStr "a"), (eStr "b2"), (eStr "core"), (eStr "edge7"), (eStr "north"), (eStr "s"), (eStr "hall"), (eStr "k9"), (eStr "red"), (eStr "blue"), (eStr "green"), (eStr "u"), (eStr "desk3"), (eStr "gate0"), (eStr "printer"), (eStr "mail"), (eStr "x1"), (eStr "door"), (eStr "east"), (eStr "west4"), (eStr "n"), (eStr "till"), (eStr "shop"), (eStr "scan8"), (eStr "lab"), (eStr "p"), (eStr "office"), (eStr "zz"), (eStr "tower12"), (eStr "yard"), (eStr "m5"), (eStr "cash"), (eStr "log1"), (eStr "books"), (eStr "v"), (eStr "wing"), (eStr "floor2"), (eStr "abcdefgh"), (eStr "q"), (eStr "tray"), (eStr "stock6"), (eStr "h"), (eStr "unit"), (eStr "rack"), (eStr "line4"), (eStr "bell"), (eStr "site"), (eStr "j7"), (eStr "cup"), (eStr "lamp")]))]
def φ_law_pool : List T → FR := fnSem 0 b_law_pool
def F_law_pool : Fn := ⟨"_law_pool", 0, φ_law_pool⟩
theorem E_law_pool : F_law_pool = ⟨"_law_pool", 0, fnSem 0 b_law_pool⟩ := by unfold F_law_pool φ_law_pool; rfl
theorem D_law_pool : DefOk (top 15) N_law_pool [] b_law_pool := ⟨⟨rfl, rfl, rfl, by decide +kernel, rfl, by decide +kernel, by decide +kernel⟩, by kernel_rfl⟩
/-! ### _law_names -/
abbrev N_law_names : List Str := ["d", "w", "names", "first", "second"]
def b_law_names : Bl := blk [sSet (gN 2) (eCall F_law_shuffled (xs [(eVar 0), (eCall0 F_law_pool)])),
  sSet (gN 3) (eSlH (eVar 2) (eIx (eVar 1) (eInt 2))),
  sSet (gN 4) (eSl2 (eVar 2) (eIx (eVar 1) (eInt 2)) (eBin .Add (eIx (eVar 1) (eInt 2)) (eLen (eIx (eVar 1) (eInt 4))))),
  sRet (eLst (xs [(eMove 3), (eMove 4), (eSl2 (eVar 2) (eBin .Add (eIx (eVar 1) (eInt 2)) (eLen (eIx (eVar 1) (eInt 4)))) (eBin .Add (eBin .Add (eIx (eVar 1) (eInt 2)) (eLen (eIx (eVar 1) (eInt 4)))) (eLen (eIx (eVar 1) (eInt 5))))), (eSlL (eVar 2) (eInt 40))]))]
def φ_law_names : List T → FR := fnSem 5 b_law_names
def F_law_names : Fn := ⟨"_law_names", 2, φ_law_names⟩
theorem E_law_names : F_law_names = ⟨"_law_names", 2, fnSem 5 b_law_names⟩ := by unfold F_law_names φ_law_names; rfl
theorem D_law_names : DefOk (top 27) N_law_names ["d", "w"] b_law_names := ⟨⟨rfl, rfl, rfl, by decide +kernel, rfl, by decide +kernel, by decide +kernel⟩, by kernel_rfl⟩
/-! ### _law_mask_text -/
abbrev N_law_mask_text : List Str := ["mask", "bits", "bit"]
def b_law_mask_text : Bl := blk [sRet (eJoin (eStr "") (eLc ⟨[2], (gN 2), (iRange1 (eVar 1)), none, (eIf (bTruth (eBin .BitAnd (eBin .RShift (eVar 0) (eBin .Sub (eBin .Sub (eVar 1) (eInt 1)) (eVar 2))) (eInt 1))) (eStr "1") (eStr "0"))⟩))]
def φ_law_mask_text : List T → FR := fnSem 3 b_law_mask_text
def F_law_mask_text : Fn := ⟨"_law_mask_text", 2, φ_law_mask_text⟩
theorem E_law_mask_text : F_law_mask_text = ⟨"_law_mask_text", 2, fnSem 3 b_law_mask_text⟩ := by unfold F_law_mask_text φ_law_mask_text; rfl
theorem D_law_mask_text : DefOk (top 26) N_law_mask_text ["mask", "bits"] b_law_mask_text := ⟨⟨rfl, rfl, rfl, by decide +kernel, rfl, by decide +kernel, by decide +kernel⟩, by kernel_rfl⟩
/-! ### _law_switch_item -/
abbrev N_law_switch_item : List Str := ["w", "names", "k", "sees", "hands", "falls", "blind", "width", "whole", "seen", "held"]
def b_law_switch_item : Bl := blk [sSet (gT [3, 4, 5, 6]) (eIx (eIx (eVar 0) (eInt 8)) (eVar 2)),
  sSet (gN 7) (eBin .Add (eIx (eVar 0) (eInt 0)) (eIx (eVar 0) (eInt 1))),
  sSet (gN 8) (eBin .Sub (eBin .LShift (eInt 1) (eVar 7)) (eInt 1)),
  sSet (gN 9) (eIf (bCmp .Eq (eVar 3) (eVar 8)) (eStr "") (eCall F_law_mask_text (xs [(eVar 3), (eVar 7)]))),
  sSet (gN 10) (eIf (bCmp .Eq (eVar 4) (eVar 8)) (eStr "") (eCall F_law_mask_text (xs [(eVar 4), (eVar 7)]))),
  sRet (eTup (xs [(eIx (eIx (eVar 1) (eInt 0)) (eVar 2)), (eIx (eIx (eVar 0) (eInt 7)) (eVar 2)), (eVar 9), (eVar 10), (eVar 5), (eVar 6)]))]
def φ_law_switch_item : List T → FR := fnSem 11 b_law_switch_item
def F_law_switch_item : Fn := ⟨"_law_switch_item", 3, φ_law_switch_item⟩
theorem E_law_switch_item : F_law_switch_item = ⟨"_law_switch_item", 3, fnSem 11 b_law_switch_item⟩ := by unfold F_law_switch_item φ_law_switch_item; rfl
theorem D_law_switch_item : DefOk (top 29) N_law_switch_item ["w", "names", "k"] b_law_switch_item := ⟨⟨rfl, rfl, rfl, by decide +kernel, rfl, by decide +kernel, by decide +kernel⟩, by kernel_rfl⟩
/-! ### _law_pattern -/
abbrev N_law_pattern : List Str := ["care", "value", "bits", "text", "bit", "place", "sign"]
def b_law_pattern : Bl := blk [sSet (gN 3) (eStr ""),
  sFor (gN 4) (iRange1 (eVar 2)) (blk [sSet (gN 5) (eBin .Sub (eBin .Sub (eVar 2) (eInt 1)) (eVar 4)),
  sSet (gN 6) (eStr "*"),
  sIf (bTruth (eBin .BitAnd (eBin .RShift (eVar 0) (eVar 5)) (eInt 1))) (blk [sSet (gN 6) (eIf (bTruth (eBin .BitAnd (eBin .RShift (eVar 1) (eVar 5)) (eInt 1))) (eStr "1") (eStr "0"))]) (blk []),
  sSet (gN 3) (eBin .Add (eVar 3) (eVar 6))]),
  sRet (eVar 3)]
def φ_law_pattern : List T → FR := fnSem 7 b_law_pattern
def F_law_pattern : Fn := ⟨"_law_pattern", 3, φ_law_pattern⟩
theorem E_law_pattern : F_law_pattern = ⟨"_law_pattern", 3, fnSem 7 b_law_pattern⟩ := by unfold F_law_pattern φ_law_pattern; rfl
theorem D_law_pattern : DefOk (top 25) N_law_pattern ["care", "value", "bits"] b_law_pattern := ⟨⟨rfl, rfl, rfl, by decide +kernel, rfl, by decide +kernel, by decide +kernel⟩, by kernel_rfl⟩
/-! ### _law_bits -/
abbrev N_law_bits : List Str := ["mask", "bit"]
def b_law_bits : Bl := blk [sRet (eLc ⟨[1], (gN 1), (iRange1 (eInt 14)), (some (bTruth (eBin .BitAnd (eBin .RShift (eVar 0) (eVar 1)) (eInt 1)))), (eVar 1)⟩)]
def φ_law_bits : List T → FR := fnSem 2 b_law_bits
def F_law_bits : Fn := ⟨"_law_bits", 1, φ_law_bits⟩
theorem E_law_bits : F_law_bits = ⟨"_law_bits", 1, fnSem 2 b_law_bits⟩ := by unfold F_law_bits φ_law_bits; rfl
theorem D_law_bits : DefOk (top 16) N_law_bits ["mask"] b_law_bits := ⟨⟨rfl, rfl, rfl, by decide +kernel, rfl, by decide +kernel, by decide +kernel⟩, by kernel_rfl⟩
/-! ### _law_wish_item -/
abbrev N_law_wish_item : List Str := ["w", "names", "k", "wish", "when", "via", "switch", "avoid", "sets"]
def b_law_wish_item : Bl := blk [sSet (gN 3) (eIx (eIx (eVar 0) (eInt 5)) (eVar 2)),
  sSet (gN 4) (eIf (bCmp .Eq (eIx (eVar 3) (eInt 2)) (eInt 0)) (eStr "") (eCall F_law_pattern (xs [(eIx (eVar 3) (eInt 2)), (eIx (eVar 3) (eInt 3)), (eIx (eVar 0) (eInt 0))]))),
  sIf (bCmp .Is (eIx (eVar 3) (eInt 1)) eNon) (blk [sRet (eTup (xs [(eIx (eIx (eVar 1) (eInt 2)) (eVar 2)), (eIx (eIx (eVar 1) (eInt 1)) (eIx (eVar 3) (eInt 0))), (eStr ""), (eVar 4), (eTup (xs [])), (eTup (xs [])), (eStr ""), (eInt 0)]))]) (blk []),
  sSet (gN 5) (eTuple (eLc ⟨[6], (gN 6), (iSeq (eIx (eVar 3) (eInt 4))), none, (eIx (eIx (eVar 1) (eInt 0)) (eVar 6))⟩)),
  sSet (gN 7) (eTuple (eLc ⟨[6], (gN 6), (iSeq (eCall F_law_bits (xs [(eIx (eVar 3) (eInt 5))]))), none, (eIx (eIx (eVar 1) (eInt 0)) (eVar 6))⟩)),
  sSet (gN 8) (eIf (bCmp .Eq (eIx (eVar 3) (eInt 6)) (eInt 0)) (eStr "") (eCall F_law_pattern (xs [(eIx (eVar 3) (eInt 6)), (eIx (eVar 3) (eInt 7)), (eIx (eVar 0) (eInt 0))]))),
  sRet (eTup (xs [(eIx (eIx (eVar 1) (eInt 2)) (eVar 2)), (eIx (eIx (eVar 1) (eInt 1)) (eIx (eVar 3) (eInt 0))), (eIx (eIx (eVar 1) (eInt 1)) (eIx (eVar 3) (eInt 1))), (eVar 4), (eVar 5), (eVar 7), (eVar 8), (eIx (eVar 3) (eInt 8))]))]
def φ_law_wish_item : List T → FR := fnSem 9 b_law_wish_item
def F_law_wish_item : Fn := ⟨"_law_wish_item", 3, φ_law_wish_item⟩
theorem E_law_wish_item : F_law_wish_item = ⟨"_law_wish_item", 3, fnSem 9 b_law_wish_item⟩ := by unfold F_law_wish_item φ_law_wish_item; rfl
theorem D_law_wish_item : DefOk (top 28) N_law_wish_item ["w", "names", "k"] b_law_wish_item := ⟨⟨rfl, rfl, rfl, by decide +kernel, rfl, by decide +kernel, by decide +kernel⟩, by kernel_rfl⟩
/-! ### _law_tree -/
abbrev N_law_tree : List Str := ["w", "names", "switches", "k", "links", "pair", "hosts", "wishes"]
def b_law_tree : Bl := blk [sSet (gN 2) (eTuple (eLc ⟨[3], (gN 3), (iRange1 (eIx (eVar 0) (eInt 2))), none, (eCall F_law_switch_item (xs [(eVar 0), (eVar 1), (eVar 3)]))⟩)),
  sSet (gN 4) (eTuple (eLc ⟨[5], (gN 5), (iSeq (eIx (eVar 0) (eInt 3))), none, (eTup (xs [(eIx (eIx (eVar 1) (eInt 0)) (eIx (eVar 5) (eInt 0))), (eIx (eIx (eVar 1) (eInt 0)) (eIx (eVar 5) (eInt 1))), (eInt 1)]))⟩)),
  sSet (gN 6) (eTuple (eLc ⟨[3], (gN 3), (iRange1 (eLen (eIx (eVar 0) (eInt 4)))), none, (eTup (xs [(eIx (eIx (eVar 1) (eInt 1)) (eVar 3)), (eIx (eIx (eVar 1) (eInt 0)) (eIx (eIx (eIx (eVar 0) (eInt 4)) (eVar 3)) (eInt 0))), (eIx (eIx (eIx (eVar 0) (eInt 4)) (eVar 3)) (eInt 1)), (eIx (eIx (eIx (eVar 0) (eInt 4)) (eVar 3)) (eInt 2))]))⟩)),
  sSet (gN 7) (eTuple (eLc ⟨[3], (gN 3), (iRange1 (eLen (eIx (eVar 0) (eInt 5)))), none, (eCall F_law_wish_item (xs [(eVar 0), (eVar 1), (eVar 3)]))⟩)),
  sRet (eTup (xs [(eStr "text"), (eIx (eVar 0) (eInt 0)), (eIx (eVar 0) (eInt 1)), (eVar 2), (eVar 4), (eVar 6), (eVar 7), (eTup (xs [])), (eTup (xs [])), (eStr "")]))]
def φ_law_tree : List T → FR := fnSem 8 b_law_tree
def F_law_tree : Fn := ⟨"_law_tree", 2, φ_law_tree⟩
theorem E_law_tree : F_law_tree = ⟨"_law_tree", 2, fnSem 8 b_law_tree⟩ := by unfold F_law_tree φ_law_tree; rfl
theorem D_law_tree : DefOk (top 30) N_law_tree ["w", "names"] b_law_tree := ⟨⟨rfl, rfl, rfl, by decide +kernel, rfl, by decide +kernel, by decide +kernel⟩, by kernel_rfl⟩
/-! ### _law_item -/
abbrev N_law_item : List Str := ["d", "names", "kind", "name"]
def b_law_item : Bl := blk [sIf (bCmp .Eq (eVar 2) (eStr "wishes")) (blk [sRet (eTup (xs [(eVar 3), (eIx (eIx (eVar 1) (eInt 0)) (eInt 0)), (eStr ""), (eCall F_law_pick (xs [(eVar 0), (eLst (xs [(eStr ""), (eStr "1"), (eStr "0*")]))])), (eTup (xs [])), (eTup (xs [])), (eStr ""), (eCall F_law_draw (xs [(eVar 0), (eInt 4)]))]))]) (blk []),
  sIf (bCmp .Eq (eVar 2) (eStr "shares")) (blk [sRet (eTup (xs [(eVar 3), (eIx (eIx (eVar 1) (eInt 0)) (eInt 0)), (eIx (eIx (eVar 1) (eInt 0)) (eInt 1)), (eBin .Add (eInt 1) (eCall F_law_draw (xs [(eVar 0), (eInt 2)]))), (eStr "")]))]) (blk []),
  sRet (eTup (xs [(eVar 3), (eStr "less"), (eStr ""), (eTup (xs [(eVar 3), (eIx (eIx (eVar 1) (eInt 0)) (eInt 1))]))]))]
def φ_law_item : List T → FR := fnSem 4 b_law_item
def F_law_item : Fn := ⟨"_law_item", 4, φ_law_item⟩
theorem E_law_item : F_law_item = ⟨"_law_item", 4, fnSem 4 b_law_item⟩ := by unfold F_law_item φ_law_item; rfl
theorem D_law_item : DefOk (top 31) N_law_item ["d", "names", "kind", "name"] b_law_item := ⟨⟨rfl, rfl, rfl, by decide +kernel, rfl, by decide +kernel, by decide +kernel⟩, by kernel_rfl⟩
/-! ### _law_edit -/
abbrev N_law_edit : List Str := ["d", "tree", "names", "way", "kind", "place", "there", "item", "name"]
def b_law_edit : Bl := blk [sSet (gN 3) (eCall F_law_draw (xs [(eVar 0), (eInt 7)])),
  sIf (bCmp .Eq (eVar 3) (eInt 0)) (blk [sRet (eTup (xs [(eStr "rule"), (eCall F_law_pick (xs [(eVar 0), (eBin .Add (eIx (eVar 2) (eInt 0)) (eLst (xs [(eStr "")])))]))]))]) (blk []),
  sSet (gN 4) (eCall F_law_pick (xs [(eVar 0), (eLst (xs [(eStr "wishes"), (eStr "shares"), (eStr "policies")]))])),
  sSet (gN 5) (eBin .Add (eInt 6) (eIndex (eLst (xs [(eStr "wishes"), (eStr "shares"), (eStr "policies")])) (eVar 4))),
  sSetLc 6 ⟨[7], (gN 7), (iSeq (eIx (eVar 1) (eVar 5))), none, (eIx (eVar 7) (eInt 0))⟩,
  sSet (gN 8) (eIf (bAnd [(bCmp .Gt (eLen (eVar 6)) (eInt 0)), (bCmp .Eq (eCall F_law_draw (xs [(eVar 0), (eInt 2)])) (eInt 0))]) (eCall F_law_pick (xs [(eVar 0), (eVar 6)])) (eCall F_law_pick (xs [(eVar 0), (eIx (eVar 2) (eInt 3))]))),
  sIf (bCmp .Lt (eVar 3) (eInt 5)) (blk [sRet (eTup (xs [(eStr "put"), (eVar 4), (eCall F_law_item (xs [(eVar 0), (eVar 2), (eVar 4), (eVar 8)]))]))]) (blk []),
  sRet (eTup (xs [(eStr "drop"), (eVar 4), (eVar 8)]))]
def φ_law_edit : List T → FR := fnSem 9 b_law_edit
def F_law_edit : Fn := ⟨"_law_edit", 3, φ_law_edit⟩
theorem E_law_edit : F_law_edit = ⟨"_law_edit", 3, fnSem 9 b_law_edit⟩ := by unfold F_law_edit φ_law_edit; rfl
theorem D_law_edit : DefOk (top 32) N_law_edit ["d", "tree", "names"] b_law_edit := ⟨⟨rfl, rfl, rfl, by decide +kernel, rfl, by decide +kernel, by decide +kernel⟩, by kernel_rfl⟩
/-! ### _law_due -/
abbrev N_law_due : List Str := ["tree", "edit", "parts", "place", "items", "name", "at", "k"]
def b_law_due : Bl := blk [sSet (gN 2) (eList (eVar 0)),
  sIf (bCmp .Eq (eIx (eVar 1) (eInt 0)) (eStr "rule")) (blk [sSetIx (eVar 2) (eInt 9) (eIx (eVar 1) (eInt 1)),
  sRet (eTuple (eVar 2))]) (blk []),
  sSet (gN 3) (eBin .Add (eInt 6) (eIndex (eLst (xs [(eStr "wishes"), (eStr "shares"), (eStr "policies")])) (eIx (eVar 1) (eInt 1)))),
  sSet (gN 4) (eList (eIx (eVar 2) (eVar 3))),
  sSet (gN 5) (eIf (bCmp .Eq (eIx (eVar 1) (eInt 0)) (eStr "put")) (eIx (eIx (eVar 1) (eInt 2)) (eInt 0)) (eIx (eVar 1) (eInt 2))),
  sSetLc 6 ⟨[7], (gN 7), (iRange1 (eLen (eVar 4))), (some (bCmp .Eq (eIx (eIx (eVar 4) (eVar 7)) (eInt 0)) (eVar 5))), (eVar 7)⟩,
  sIf (bAnd [(bCmp .Eq (eIx (eVar 1) (eInt 0)) (eStr "put")), (bCmp .Eq (eLen (eVar 6)) (eInt 0))]) (blk [sExpr (eAppend (eVar 4) (eIx (eVar 1) (eInt 2)))]) (blk [sIf (bCmp .Eq (eIx (eVar 1) (eInt 0)) (eStr "put")) (blk [sSetIx (eVar 4) (eIx (eVar 6) (eInt 0)) (eIx (eVar 1) (eInt 2))]) (blk [sIf (bCmp .Eq (eLen (eVar 6)) (eInt 0)) (blk [sRet eNon]) (blk [sExpr (ePopAt (eVar 4) (eIx (eVar 6) (eInt 0)))])])]),
  sSetIx (eVar 2) (eVar 3) (eTuple (eVar 4)),
  sRet (eTuple (eVar 2))]
def φ_law_due : List T → FR := fnSem 8 b_law_due
def F_law_due : Fn := ⟨"_law_due", 2, φ_law_due⟩
theorem E_law_due : F_law_due = ⟨"_law_due", 2, fnSem 8 b_law_due⟩ := by unfold F_law_due φ_law_due; rfl
theorem D_law_due : DefOk (top 33) N_law_due ["tree", "edit"] b_law_due := ⟨⟨rfl, rfl, rfl, by decide +kernel, rfl, by decide +kernel, by decide +kernel⟩, by kernel_rfl⟩
/-! ### with_part -/
abbrev N_with_part : List Str := ["tree", "place", "part"]
def b_with_part : Bl := blk [sRet (eBin .Add (eBin .Add (eSlH (eVar 0) (eVar 1)) (eTup (xs [(eVar 2)]))) (eSlL (eVar 0) (eBin .Add (eVar 1) (eInt 1))))]
def φ_with_part : List T → FR := fnSem 3 b_with_part
def F_with_part : Fn := ⟨"with_part", 3, φ_with_part⟩
theorem E_with_part : F_with_part = ⟨"with_part", 3, fnSem 3 b_with_part⟩ := by unfold F_with_part φ_with_part; rfl
theorem D_with_part : DefOk (top 5) N_with_part ["tree", "place", "part"] b_with_part := ⟨⟨rfl, rfl, rfl, by decide +kernel, rfl, by decide +kernel, by decide +kernel⟩, by kernel_rfl⟩
/-! ### drop_item -/
abbrev N_drop_item : List Str := ["items", "name", "left", "one"]
def b_drop_item : Bl := blk [sSet (gN 2) (eTuple (eLc ⟨[3], (gN 3), (iSeq (eVar 0)), (some (bCmp .NotEq (eIx (eVar 3) (eInt 0)) (eVar 1))), (eVar 3)⟩)),
  sIf (bCmp .Eq (eLen (eVar 2)) (eLen (eVar 0))) (blk [sRaise 0 "Unknown" (eVar 1)]) (blk []),
  sRet (eVar 2)]
def φ_drop_item : List T → FR := fnSem 4 b_drop_item
def F_drop_item : Fn := ⟨"drop_item", 2, φ_drop_item⟩
theorem E_drop_item : F_drop_item = ⟨"drop_item", 2, fnSem 4 b_drop_item⟩ := by unfold F_drop_item φ_drop_item; rfl
theorem D_drop_item : DefOk (top 7) N_drop_item ["items", "name"] b_drop_item := ⟨⟨rfl, rfl, rfl, by decide +kernel, rfl, by decide +kernel, by decide +kernel⟩, by kernel_rfl⟩
/-! ### put_item -/
abbrev N_put_item : List Str := ["items", "item", "names", "one"]
def b_put_item : Bl := blk [sSetLc 2 ⟨[3], (gN 3), (iSeq (eVar 0)), none, (eIx (eVar 3) (eInt 0))⟩,
  sIf (bCmp .NotIn (eIx (eVar 1) (eInt 0)) (eVar 2)) (blk [sRet (eBin .Add (eVar 0) (eTup (xs [(eVar 1)])))]) (blk []),
  sRet (eTuple (eLc ⟨[3], (gN 3), (iSeq (eVar 0)), none, (eIf (bCmp .Eq (eIx (eVar 3) (eInt 0)) (eIx (eVar 1) (eInt 0))) (eVar 1) (eVar 3))⟩))]
def φ_put_item : List T → FR := fnSem 4 b_put_item
def F_put_item : Fn := ⟨"put_item", 2, φ_put_item⟩
theorem E_put_item : F_put_item = ⟨"put_item", 2, fnSem 4 b_put_item⟩ := by unfold F_put_item φ_put_item; rfl
theorem D_put_item : DefOk (top 6) N_put_item ["items", "item"] b_put_item := ⟨⟨rfl, rfl, rfl, by decide +kernel, rfl, by decide +kernel, by decide +kernel⟩, by kernel_rfl⟩
/-! ### edit_tree -/
abbrev N_edit_tree : List Str := ["tree", "edit", "word", "place"]
def b_edit_tree : Bl := blk [sSet (gN 2) (eIx (eVar 1) (eInt 0)),
  sIf (bCmp .Eq (eVar 2) (eStr "rule")) (blk [sRet (eCall F_with_part (xs [(eVar 0), (eInt 9), (eIx (eVar 1) (eInt 1))]))]) (blk []),
  sSet (gN 3) (eKIx "PLACES" [("wishes", 6), ("shares", 7), ("policies", 8)] (eIx (eVar 1) (eInt 1))),
  sIf (bCmp .Eq (eVar 2) (eStr "put")) (blk [sRet (eCall F_with_part (xs [(eVar 0), (eVar 3), (eCall F_put_item (xs [(eIx (eVar 0) (eVar 3)), (eIx (eVar 1) (eInt 2))]))]))]) (blk []),
  sRet (eCall F_with_part (xs [(eVar 0), (eVar 3), (eCall F_drop_item (xs [(eIx (eVar 0) (eVar 3)), (eIx (eVar 1) (eInt 2))]))]))]
def φ_edit_tree : List T → FR := fnSem 4 b_edit_tree
def F_edit_tree : Fn := ⟨"edit_tree", 2, φ_edit_tree⟩
theorem E_edit_tree : F_edit_tree = ⟨"edit_tree", 2, fnSem 4 b_edit_tree⟩ := by unfold F_edit_tree φ_edit_tree; rfl
theorem D_edit_tree : DefOk (top 8) N_edit_tree ["tree", "edit"] b_edit_tree := ⟨⟨rfl, rfl, rfl, by decide +kernel, rfl, by decide +kernel, by decide +kernel⟩, by kernel_rfl⟩
/-! ### law -/
abbrev N_law : List Str := ["script", "d", "w", "names", "tree", "step", "edit", "due", "before", "told", "error"]
def b_law : Bl := blk [sSet (gN 1) (eCall F_law_begin (xs [(eVar 0)])),
  sSet (gN 2) (eCall F_law_small (xs [(eVar 1)])),
  sSet (gN 3) (eCall F_law_names (xs [(eVar 1), (eVar 2)])),
  sSet (gN 4) (eCall F_law_tree (xs [(eVar 2), (eVar 3)])),
  sFor (gN 5) (iRange1 (eBin .Add (eInt 1) (eCall F_law_draw (xs [(eVar 1), (eInt 8)])))) (blk [sSet (gN 6) (eCall F_law_edit (xs [(eVar 1), (eVar 4), (eVar 3)])),
  sSet (gN 7) (eCall F_law_due (xs [(eVar 4), (eVar 6)])),
  sSet (gN 8) (eRepr (eVar 4)),
  sSet (gN 9) eNon,
  sTryIf 0 "Unknown" 10 "name" .NotEq "WishError" (blk [sSet (gN 9) (eCall F_edit_tree (xs [(eVar 4), (eVar 6)]))]) (bCmp .IsNot (eVar 7) eNon) (eIx (eVar 6) (eInt 2)),
  sIf (bOr [(bCmp .NotEq (eVar 9) (eVar 7)), (bCmp .NotEq (eRepr (eVar 4)) (eVar 8))]) (blk [sRet (eBl false)]) (blk []),
  sIf (bCmp .IsNot (eVar 7) eNon) (blk [sSet (gN 4) (eVar 7)]) (blk [])]),
  sRet (eBl true)]
def φ_law : List T → FR := fnSem 11 b_law
def F_law : Fn := ⟨"law", 1, φ_law⟩
theorem E_law : F_law = ⟨"law", 1, fnSem 11 b_law⟩ := by unfold F_law φ_law; rfl
theorem D_law : DefOk (top 34) N_law ["script"] b_law := ⟨⟨rfl, rfl, rfl, by decide +kernel, rfl, by decide +kernel, by decide +kernel⟩, by kernel_rfl⟩
end K81
set_option Elab.async false
set_option linter.all false
set_option maxRecDepth 100000
set_option maxHeartbeats 4000000
/-! k81: draws and picks (the same lines as for k83). -/
namespace K81
open PySem L2 Pv
def ds (a b c e : Int) (cs : List Int) : T := .lst [.int a, .int b, .int c, .int e, .lst (cs.map .int)]
def Dg (d : T) : Prop := ∃ a b c e cs, d = ds a b c e cs ∧ 0 ≤ a ∧ a < 2147483647 ∧ 0 ≤ b ∧ 0 ≤ c ∧ 0 ≤ e
theorem dg_imm {d : T} (h : Dg d) : d.imm = false := by obtain ⟨a, b, c, e, cs, rfl, _⟩ := h; rfl
abbrev r6 (d : T) (m : Int) (x3 x4 x5 x6 : Option T) : Rho := [some d, some (.int m), x3, x4, x5, x6]
def draw2 : List Sx := [sIf (bCmp .Gt (eIx (eVar 0) (eInt 1)) (eInt 0)) (blk [sSet (gN 4) (eBin .Mod (eIntT (eIx (eVar 0) (eInt 1))) (eVar 1)),
  sSetIx (eVar 0) (eInt 1) (eBin .FloorDiv (eIx (eVar 0) (eInt 1)) (eVar 1)),
  sRet (eVar 4)]) (blk []),
  sSetIx (eVar 0) (eInt 3) (eBin .Add (eIx (eVar 0) (eInt 3)) (eInt 1)),
  sSetIx (eVar 0) (eInt 0) (eBin .Mod (eIntT (eBin .Add (eBin .Add (eBin .Mult (eIx (eVar 0) (eInt 0)) (eInt 48271)) (eBin .Mult (eIx (eVar 0) (eInt 3)) (eInt 7919))) (eInt 11))) (eInt 2147483647)),
  sSet (gN 5) (eBin .Mod (eIntT (eBin .Add (eBin .Mult (eIx (eVar 0) (eInt 0)) (eIx (eVar 0) (eInt 0))) (eIx (eVar 0) (eInt 3)))) (eInt 2147483629)),
  sRet (eBin .Mod (eIntT (eBin .FloorDiv (eVar 5) (eInt 7))) (eVar 1))]
theorem draw2_ok {a b c e : Int} {cs : List Int} {m : Int} (ha : 0 ≤ a) (ha2 : a < 2147483647) (hb : 0 ≤ b) (hc : 0 ≤ c) (he : 0 ≤ e) (hm : 2 ≤ m) (hm2 : m < 1073741824) (x3 x4 x5 x6 : Option T) :
    ∃ k d' y5 y6, (blk draw2).sem (r6 (ds a b c e cs) m x3 x4 x5 x6) = .ret (.int k) (r6 d' m x3 x4 y5 y6) ∧ Dg d' ∧ 0 ≤ k ∧ k < m := by
  have c1 : (bCmp .Gt (eIx (eVar 0) (eInt 1)) (eInt 0)).sem (r6 (ds a b c e cs) m x3 x4 x5 x6) = .ok (decide (0 < b)) (r6 (ds a b c e cs) m x3 x4 x5 x6) false := rfl
  by_cases hb0 : 0 < b
  · rw [decide_eq_true hb0] at c1
    refine ⟨b % m, ds a (b / m) c e cs, some (.int (b % m)), x6, ?_, ⟨a, b / m, c, e, cs, rfl, ha, ha2, Int.ediv_nonneg hb (by omega), hc, he⟩, Int.emod_nonneg _ (by omega), Int.emod_lt_of_pos _ (by omega)⟩
    refine b_ret ((i_t c1).trans ?_)
    refine (b_nx (s_set (e_bin (τ1 := false) (τ2 := false) (x := .int b) (y := .int m) (int_id (i := b) (τ := false) rfl) rfl rfl rfl rfl rfl (mod_pos (by omega))) rfl)).trans ?_
    refine (b_nx (s_setix (k := 1) (τ := false) (ts := [.int a, .int b, .int c, .int e, .lst (cs.map .int)]) (e_bin (τ1 := false) (τ2 := false) (x := .int b) (y := .int m) rfl rfl rfl rfl rfl rfl (div_ok ⟨by omega, hm2⟩)) rfl rfl)).trans ?_
    exact b_ret (s_ret rfl)
  · have hb1 : b = 0 := by omega
    subst hb1
    rw [decide_eq_false hb0] at c1
    generalize h1 : e + 1 = e1
    generalize h2 : (a * 48271 + e1 * 7919 + 11) % 2147483647 = a1
    generalize h3 : (a1 * a1 + e1) % 2147483629 = mx
    have pa : 0 ≤ a1 := by rw [← h2]; exact Int.emod_nonneg _ (by omega)
    have pa2 : a1 < 2147483647 := by rw [← h2]; exact Int.emod_lt_of_pos _ (by omega)
    refine ⟨mx / 7 % m, ds a1 0 c e1 cs, x5, some (.int mx), ?_, ⟨a1, 0, c, e1, cs, rfl, pa, pa2, by omega, hc, by omega⟩, Int.emod_nonneg _ (by omega), Int.emod_lt_of_pos _ (by omega)⟩
    refine (b_nx ((i_f c1).trans rfl)).trans ?_
    refine (b_nx (s_setix (t := .int e1) (k := 3) (τ := false) (ts := [.int a, .int 0, .int c, .int e, .lst (cs.map .int)]) (by rw [← h1]; rfl) rfl rfl)).trans ?_
    have q1 : (eBin .Mult (eIx (eVar 0) (eInt 0)) (eInt 48271)).sem (r6 (ds a 0 c e1 cs) m x3 x4 x5 x6) = .ok (.v (.int (a * 48271))) (r6 (ds a 0 c e1 cs) m x3 x4 x5 x6) false := e_bin (τ1 := false) (τ2 := false) (x := .int a) (y := .int 48271) rfl rfl rfl rfl rfl rfl (mul_lit (by decide))
    have q2 : (eBin .Mult (eIx (eVar 0) (eInt 3)) (eInt 7919)).sem (r6 (ds a 0 c e1 cs) m x3 x4 x5 x6) = .ok (.v (.int (e1 * 7919))) (r6 (ds a 0 c e1 cs) m x3 x4 x5 x6) false := e_bin (τ1 := false) (τ2 := false) (x := .int e1) (y := .int 7919) rfl rfl rfl rfl rfl rfl (mul_lit (by decide))
    have q3 := e_bin (op := .Add) (z := .int (a * 48271 + e1 * 7919)) q1 q2 rfl rfl rfl rfl rfl
    have q4 := e_bin (op := .Add) (b := eInt 11) (z := .int (a * 48271 + e1 * 7919 + 11)) (τ2 := false) q3 rfl rfl rfl rfl rfl rfl
    have q5 := e_bin (op := .Mod) (b := eInt 2147483647) (τ2 := false) (y := .int 2147483647) (int_id q4) rfl rfl rfl rfl rfl (mod_pos (by omega))
    rw [h2] at q5
    refine (b_nx (s_setix (t := .int a1) (k := 0) (ts := [.int a, .int 0, .int c, .int e1, .lst (cs.map .int)]) q5 rfl rfl)).trans ?_
    have w1 : (eBin .Mult (eIx (eVar 0) (eInt 0)) (eIx (eVar 0) (eInt 0))).sem (r6 (ds a1 0 c e1 cs) m x3 x4 x5 x6) = .ok (.v (.int (a1 * a1))) (r6 (ds a1 0 c e1 cs) m x3 x4 x5 x6) false := e_bin (τ1 := false) (τ2 := false) (x := .int a1) (y := .int a1) rfl rfl rfl rfl rfl rfl (mul_small (by omega))
    have w2 := e_bin (op := .Add) (b := eIx (eVar 0) (eInt 3)) (y := .int e1) (z := .int (a1 * a1 + e1)) (τ2 := false) w1 rfl rfl rfl rfl rfl rfl
    have w3 := e_bin (op := .Mod) (b := eInt 2147483629) (τ2 := false) (y := .int 2147483629) (int_id w2) rfl rfl rfl rfl rfl (mod_pos (by omega))
    rw [h3] at w3
    refine (b_nx (s_set w3 rfl)).trans ?_
    have v1 : (eBin .FloorDiv (eVar 5) (eInt 7)).sem (r6 (ds a1 0 c e1 cs) m x3 x4 x5 (some (.int mx))) = .ok (.v (.int (mx / 7))) (r6 (ds a1 0 c e1 cs) m x3 x4 x5 (some (.int mx))) false := rfl
    exact b_ret (s_ret (e_bin (op := .Mod) (b := eVar 1) (τ2 := false) (y := .int m) (int_id v1) rfl rfl rfl rfl rfl (mod_pos (by omega))))
theorem draw_ok {d : T} (hd : Dg d) {m : Int} (hm2 : m < 1073741824) : ∃ k d', φ_law_draw [d, .int m] = .ok (.int k) [some d', some (.int m)] ∧ Dg d' ∧ 0 ≤ k ∧ (m < 2 → k = 0) ∧ (2 ≤ m → k < m) := by
  obtain ⟨a, b, c, e, cs, rfl, ha, ha2, hb, hc, he⟩ := hd
  have c0 : (bCmp .Lt (eVar 1) (eInt 2)).sem (r6 (ds a b c e cs) m none none none none) = .ok (decide (m < 2)) (r6 (ds a b c e cs) m none none none none) false := rfl
  by_cases hm : m < 2
  · rw [decide_eq_true hm] at c0
    exact ⟨0, _, fn_ret rfl (b_ret ((i_t c0).trans (b_ret (s_ret rfl)))) rfl rfl, ⟨a, b, c, e, cs, rfl, ha, ha2, hb, hc, he⟩, by omega, fun _ => rfl, fun h => by omega⟩
  rw [decide_eq_false hm] at c0
  have fin : ∀ {d1 : T} {x3 x4 : Option T}, Dg d1 → (sIf (bAnd [(bCmp .Eq (eIx (eVar 0) (eInt 1)) (eInt 0)), (bCmp .Lt (eIx (eVar 0) (eInt 2)) (eLen (eIx (eVar 0) (eInt 4))))]) (blk [sSet (gN 2) (eIx (eIx (eVar 0) (eInt 4)) (eIx (eVar 0) (eInt 2))),
      sSetIx (eVar 0) (eInt 2) (eBin .Add (eIx (eVar 0) (eInt 2)) (eInt 1)),
      sSet (gN 3) (eIf (bCmp .GtE (eVar 2) (eInt 0)) (eVar 2) (eNeg (eVar 2))),
      sIf (bCmp .GtE (eVar 3) (eBin .Pow (eInt 10) (eInt 18))) (blk [sSetIx (eVar 0) (eInt 1) (eVar 3)]) (blk [sSetIx (eVar 0) (eInt 0) (eBin .Mod (eIntT (eBin .Add (eBin .Add (eBin .Mult (eIx (eVar 0) (eInt 0)) (eInt 69621)) (eBin .Mult (eVar 3) (eInt 48271))) (eInt 12345))) (eInt 2147483647))])]) (blk [])).sem (r6 (ds a b c e cs) m none none none none) = .nx (r6 d1 m x3 x4 none none) →
      ∃ k d', φ_law_draw [ds a b c e cs, .int m] = .ok (.int k) [some d', some (.int m)] ∧ Dg d' ∧ 0 ≤ k ∧ (m < 2 → k = 0) ∧ (2 ≤ m → k < m) := fun {d1 x3 x4} h1 h => by
    obtain ⟨a', b', c', e', cs', rfl, g1, g2, g3, g4, g5⟩ := h1
    obtain ⟨k, d', y5, y6, q1, q2, q3, q4⟩ := draw2_ok (cs := cs') g1 g2 g3 g4 g5 (by omega) hm2 x3 x4 none none
    exact ⟨k, d', fn_ret rfl ((b_nx ((i_f c0).trans rfl)).trans ((b_nx h).trans q1)) rfl rfl, q2, q3, fun h => absurd h hm, fun _ => q4⟩
  have k1 : (bCmp .Eq (eIx (eVar 0) (eInt 1)) (eInt 0)).sem (r6 (ds a b c e cs) m none none none none) = .ok (b == 0) (r6 (ds a b c e cs) m none none none none) false := rfl
  have k2 : (bCmp .Lt (eIx (eVar 0) (eInt 2)) (eLen (eIx (eVar 0) (eInt 4)))).sem (r6 (ds a b c e cs) m none none none none) = .ok (decide (c < ((cs.map T.int).length : Int))) (r6 (ds a b c e cs) m none none none none) false := rfl
  have dg0 : Dg (ds a b c e cs) := ⟨a, b, c, e, cs, rfl, ha, ha2, hb, hc, he⟩
  by_cases hb0 : b = 0
  case neg =>
    rw [show (b == 0) = false by simpa using hb0] at k1
    exact fin dg0 ((i_f (and_f k1)).trans rfl)
  subst hb0
  rw [show ((0 : Int) == 0) = true from rfl] at k1
  by_cases hc0 : c < ((cs.map T.int).length : Int)
  case neg =>
    rw [decide_eq_false hc0] at k2
    exact fin dg0 ((i_f (and_t k1 (and_1.trans k2))).trans rfl)
  rw [decide_eq_true hc0] at k2
  have hl : c.toNat < cs.length := by rw [List.length_map] at hc0; omega
  generalize hx : cs[c.toNat] = x
  have hg : (cs.map T.int)[c.toNat]? = some (.int x) := by rw [List.getElem?_map, List.getElem?_eq_getElem hl, hx]; rfl
  generalize hn : (if 0 ≤ x then x else -x) = n
  have hn0 : 0 ≤ n := by rw [← hn]; split <;> omega
  have s1 : (sSet (gN 2) (eIx (eIx (eVar 0) (eInt 4)) (eIx (eVar 0) (eInt 2)))).sem (r6 (ds a 0 c e cs) m none none none none) = .nx (r6 (ds a 0 c e cs) m (some (.int x)) none none none) := by
    refine s_set (ρ1 := r6 (ds a 0 c e cs) m none none none none) (τ := false) (t := .int x) (e_ix (τ1 := false) (τ2 := false) (o1 := .p 0 [4]) (o2 := .v (.int c)) (x := .lst (cs.map .int)) (y := .int c) rfl rfl rfl rfl rfl rfl ?_) rfl
    simp only [ixO, ixN_in hc hc0, hg]
    rfl
  have s2 : (sSetIx (eVar 0) (eInt 2) (eBin .Add (eIx (eVar 0) (eInt 2)) (eInt 1))).sem (r6 (ds a 0 c e cs) m (some (.int x)) none none none) = .nx (r6 (ds a 0 (c + 1) e cs) m (some (.int x)) none none none) :=
    s_setix (ρ1 := r6 (ds a 0 c e cs) m (some (.int x)) none none none) (t := .int (c + 1)) (k := 2) (τ := false) (ts := [.int a, .int 0, .int c, .int e, .lst (cs.map .int)]) rfl rfl rfl
  have s3 : (sSet (gN 3) (eIf (bCmp .GtE (eVar 2) (eInt 0)) (eVar 2) (eNeg (eVar 2)))).sem (r6 (ds a 0 (c + 1) e cs) m (some (.int x)) none none none) = .nx (r6 (ds a 0 (c + 1) e cs) m (some (.int x)) (some (.int n)) none none) := by
    refine s_set (ρ1 := r6 (ds a 0 (c + 1) e cs) m (some (.int x)) none none none) (τ := false) (t := .int n) (e_if (ρ1 := r6 (ds a 0 (c + 1) e cs) m (some (.int x)) none none none) (k := decide (0 ≤ x)) (τ := false) (τ2 := false) rfl ?_) rfl
    by_cases h : 0 ≤ x
    · rw [if_pos h] at hn; subst hn
      rw [if_pos (decide_eq_true h)]; rfl
    · rw [if_neg h] at hn; subst hn
      rw [if_neg (by simpa using h)]; rfl
  have c4 : (bCmp .GtE (eVar 3) (eBin .Pow (eInt 10) (eInt 18))).sem (r6 (ds a 0 (c + 1) e cs) m (some (.int x)) (some (.int n)) none none) = .ok (decide (10 ^ 18 ≤ n)) (r6 (ds a 0 (c + 1) e cs) m (some (.int x)) (some (.int n)) none none) false := rfl
  by_cases h18 : (10 : Int) ^ 18 ≤ n
  · rw [decide_eq_true h18] at c4
    refine fin (d1 := ds a n (c + 1) e cs) (x3 := some (.int x)) (x4 := some (.int n)) ⟨a, n, c + 1, e, cs, rfl, ha, ha2, hn0, by omega, he⟩ ((i_t (and_t k1 (and_1.trans k2))).trans ?_)
    refine (b_nx s1).trans ((b_nx s2).trans ((b_nx s3).trans ((b_nx ((i_t c4).trans ?_)).trans b_nil)))
    exact (b_nx (s_setix (t := .int n) (k := 1) (τ := false) (ts := [.int a, .int 0, .int (c + 1), .int e, .lst (cs.map .int)]) rfl rfl rfl)).trans b_nil
  · rw [decide_eq_false h18] at c4
    generalize h2 : (a * 69621 + n * 48271 + 12345) % 2147483647 = a1
    have pa : 0 ≤ a1 := by rw [← h2]; exact Int.emod_nonneg _ (by omega)
    have pa2 : a1 < 2147483647 := by rw [← h2]; exact Int.emod_lt_of_pos _ (by omega)
    refine fin (d1 := ds a1 0 (c + 1) e cs) (x3 := some (.int x)) (x4 := some (.int n)) ⟨a1, 0, c + 1, e, cs, rfl, pa, pa2, by omega, by omega, he⟩ ((i_t (and_t k1 (and_1.trans k2))).trans ?_)
    refine (b_nx s1).trans ((b_nx s2).trans ((b_nx s3).trans ((b_nx ((i_f c4).trans ?_)).trans b_nil)))
    have q1 : (eBin .Mult (eIx (eVar 0) (eInt 0)) (eInt 69621)).sem (r6 (ds a 0 (c + 1) e cs) m (some (.int x)) (some (.int n)) none none) = .ok (.v (.int (a * 69621))) (r6 (ds a 0 (c + 1) e cs) m (some (.int x)) (some (.int n)) none none) false := e_bin (τ1 := false) (τ2 := false) (x := .int a) (y := .int 69621) rfl rfl rfl rfl rfl rfl (mul_lit (by decide))
    have q2 : (eBin .Mult (eVar 3) (eInt 48271)).sem (r6 (ds a 0 (c + 1) e cs) m (some (.int x)) (some (.int n)) none none) = .ok (.v (.int (n * 48271))) (r6 (ds a 0 (c + 1) e cs) m (some (.int x)) (some (.int n)) none none) false := e_bin (τ1 := false) (τ2 := false) (x := .int n) (y := .int 48271) rfl rfl rfl rfl rfl rfl (mul_lit (by decide))
    have q3 := e_bin (op := .Add) (z := .int (a * 69621 + n * 48271)) q1 q2 rfl rfl rfl rfl rfl
    have q4 := e_bin (op := .Add) (b := eInt 12345) (z := .int (a * 69621 + n * 48271 + 12345)) (τ2 := false) q3 rfl rfl rfl rfl rfl rfl
    have q5 := e_bin (op := .Mod) (b := eInt 2147483647) (τ2 := false) (y := .int 2147483647) (int_id q4) rfl rfl rfl rfl rfl (mod_pos (by omega))
    rw [h2] at q5
    exact (b_nx (s_setix (t := .int a1) (k := 0) (ts := [.int a, .int 0, .int (c + 1), .int e, .lst (cs.map .int)]) q5 rfl rfl)).trans b_nil
theorem pick_ok {d : T} (hd : Dg d) {row : List T} (him : T.imms row = true) (hne : 0 < row.length) (hl : row.length < 1073741824) : ∃ x d', x ∈ row ∧ φ_law_pick [d, .lst row] = .ok x [some d', some (.lst row)] ∧ Dg d' := by
  obtain ⟨k, d', q1, q2, q3, q4, q5⟩ := draw_ok hd (m := (row.length : Int)) (by omega)
  obtain ⟨a, b, c, e, cs, rfl, _⟩ := id hd
  have hk : k < (row.length : Int) := by
    by_cases h : (row.length : Int) < 2
    · rw [q4 h]; omega
    · exact q5 (by omega)
  have hk' : k.toNat < row.length := by omega
  have hx : row[k.toNat]? = some row[k.toNat] := List.getElem?_eq_getElem hk'
  have im := imms_get him hx
  have cl : (eCall F_law_draw (xs [(eVar 0), (eLen (eVar 1))])).sem [some (ds a b c e cs), some (.lst row)] = .ok (.v (.int k)) [some d', some (.lst row)] true :=
    e_call (ρ1 := [some (ds a b c e cs), some (.lst row)]) (τ := false) (os := [.p 0 [], .v (.int row.length)]) (ts := [ds a b c e cs, .int row.length]) rfl rfl rfl rfl q1 rfl
  refine ⟨row[k.toNat], d', List.getElem_mem hk', fn_ret rfl (b_ret (s_ret (e_ix (τ1 := false) (τ2 := true) (o1 := .p 1 []) (o2 := .v (.int k)) (ρ1 := [some (ds a b c e cs), some (.lst row)]) (x := .lst row) (y := .int k) rfl cl rfl rfl rfl rfl ?_))) ?_ rfl, q2⟩
  · simp only [ixO, ixN_in q3 hk, hx, itemO, im, if_true]
  · rfl
theorem dg_shape {d : T} (h : Dg d) : ∃ ts, d = .lst ts := by
  obtain ⟨a, b, c, e, cs, rfl, _⟩ := h
  exact ⟨_, rfl⟩
theorem e_draw {d : T} (hd : Dg d) {m : Int} (hm : m < 1073741824) {a : Ex} {r : Rho} (ha : a.sem (some d :: r) = .ok (.v (.int m)) (some d :: r) false) :
    ∃ k d', (eCall F_law_draw (xs [(eVar 0), a])).sem (some d :: r) = .ok (.v (.int k)) (some d' :: r) true ∧ Dg d' ∧ 0 ≤ k ∧ (m < 2 → k = 0) ∧ (2 ≤ m → k < m) := by
  obtain ⟨k, d', q1, q2, q3, q4, q5⟩ := draw_ok hd hm
  obtain ⟨ts, rfl⟩ := dg_shape hd
  refine ⟨k, d', e_call (ρ1 := some (.lst ts) :: r) (τ := false) (os := [.p 0 [], .v (.int m)]) (ts := [.lst ts, .int m]) ?_ rfl rfl rfl q1 rfl, q2, q3, q4, q5⟩
  exact ev2 (τ1 := false) (τ2 := false) (v_lst rfl) ha rfl rfl
theorem e_pick {d : T} (hd : Dg d) {row : List T} (him : T.imms row = true) (hne : 0 < row.length) (hl : row.length < 1073741824) {a : Ex} {r : Rho} (ha : a.sem (some d :: r) = .ok (.v (.lst row)) (some d :: r) false) :
    ∃ x d', x ∈ row ∧ (eCall F_law_pick (xs [(eVar 0), a])).sem (some d :: r) = .ok (.v x) (some d' :: r) true ∧ Dg d' := by
  obtain ⟨x, d', q0, q1, q2⟩ := pick_ok hd him hne hl
  obtain ⟨ts, rfl⟩ := dg_shape hd
  refine ⟨x, d', q0, e_call (ρ1 := some (.lst ts) :: r) (τ := false) (os := [.p 0 [], .v (.lst row)]) (ts := [.lst ts, .lst row]) ?_ rfl rfl rfl q1 rfl, q2⟩
  exact ev2 (τ1 := false) (τ2 := false) (v_lst rfl) ha rfl rfl
theorem begin_ok (ns : List Int) (h : ns.length ≤ 63) : φ_law_begin [.fro ns] = .ok (ds 0 0 0 0 ns) [some (.fro ns)] := by
  have sl : (eSlH (eVar 0) (eInt 63)).sem [some (.fro ns)] = .ok (.v (.lst (ns.map .int))) [some (.fro ns)] false := by
    show opSem [(eVar 0).sem, intSem (eInt 63).sem] (f2 slHF) [some (.fro ns)] = _
    unfold opSem
    rw [ev2 (o1 := .v (.fro ns)) (o2 := .v (.int 63)) (ρ1 := [some (.fro ns)]) (ρ2 := [some (.fro ns)]) (τ1 := false) (τ2 := false) rfl rfl rfl rfl]
    simp only [f2, getO, slHF, sliceT, cut63 ns h]
    rfl
  have im : T.imms (ns.map T.int) = true := by
    induction ns with
    | nil => rfl
    | cons n r ih => exact ih (by simp at h; omega) (by
        have e := cut63 r (by simp at h; omega)
        show opSem [(eVar 0).sem, intSem (eInt 63).sem] (f2 slHF) [some (.fro r)] = _
        unfold opSem
        rw [ev2 (o1 := .v (.fro r)) (o2 := .v (.int 63)) (ρ1 := [some (.fro r)]) (ρ2 := [some (.fro r)]) (τ1 := false) (τ2 := false) rfl rfl rfl rfl]
        simp only [f2, getO, slHF, sliceT, e]
        rfl)
  have li : (eList (eSlH (eVar 0) (eInt 63))).sem [some (.fro ns)] = .ok (.v (.lst (ns.map .int))) [some (.fro ns)] false := by
    show opSem [(eSlH (eVar 0) (eInt 63)).sem] (f1 listT) [some (.fro ns)] = _
    unfold opSem
    rw [ev1 sl rfl]
    simp only [f1, getO, listT, im, if_true]
  have ls : (eLst (xs [(eInt 0), (eInt 0), (eInt 0), (eInt 0), (eList (eSlH (eVar 0) (eInt 63)))])).sem [some (.fro ns)] = .ok (.v (ds 0 0 0 0 ns)) [some (.fro ns)] false := by
    show opSem [(eInt 0).sem, (eInt 0).sem, (eInt 0).sem, (eInt 0).sem, (eList (eSlH (eVar 0) (eInt 63))).sem] lstF [some (.fro ns)] = _
    unfold opSem
    rw [evc (t := .int 0) (τ1 := false) (ρ1 := [some (.fro ns)]) rfl (evc (t := .int 0) (τ1 := false) (ρ1 := [some (.fro ns)]) rfl (evc (t := .int 0) (τ1 := false) (ρ1 := [some (.fro ns)]) rfl (evc (t := .int 0) (τ1 := false) (ρ1 := [some (.fro ns)]) rfl (evc li evn))))]
    rfl
  exact fn_ret rfl (b_ret (s_ret ls)) rfl rfl
end K81
set_option Elab.async false
set_option linter.all false
set_option maxRecDepth 100000
set_option maxHeartbeats 1000000
/-! k81: rare draws, shuffled rows, links. -/
namespace K81
open PySem L2 Pv
theorem rare_ok {d : T} (hd : Dg d) {m : Int} (h0 : 2 ≤ m) (hm : m < 1073741824) : ∃ b d', φ_law_rare [d, .int m] = .ok (.bl b) [some d', some (.int m)] ∧ Dg d' := by
  obtain ⟨ts0, e0⟩ := dg_shape hd
  obtain ⟨k, d1, q1, q2, q3, q4, q5⟩ := e_draw hd (m := m) hm (a := eVar 1) (r := [some (.int m)]) rfl
  have dv : (eBin .FloorDiv (eVar 1) (eInt 2)).sem [some d1, some (.int m)] = .ok (.v (.int (m / 2))) [some d1, some (.int m)] false :=
    e_bin (τ1 := false) (τ2 := false) (o1 := .v (.int m)) (o2 := .v (.int 2)) (x := .int m) (y := .int 2) rfl rfl rfl rfl rfl rfl (div_ok ⟨by omega, by omega⟩)
  have cm : (eCmp .Eq (eCall F_law_draw (xs [(eVar 0), (eVar 1)])) (eBin .FloorDiv (eVar 1) (eInt 2))).sem [some d, some (.int m)] = .ok (.v (.bl (k == m / 2))) [some d1, some (.int m)] true :=
    e_cmp (τ2 := false) (o2 := .v (.int (m / 2))) (y := .int (m / 2)) q1 dv rfl rfl rfl rfl rfl
  exact ⟨_, d1, fn_ret (b := b_law_rare) rfl (b_ret (s_ret cm)) (by rw [e0]; rfl) (by rw [e0]; rfl), q2⟩
theorem e_rare {d : T} (hd : Dg d) {m : Int} (h0 : 2 ≤ m) (hm : m < 1073741824) {a : Ex} {r : Rho} (ha : a.sem (some d :: r) = .ok (.v (.int m)) (some d :: r) false) :
    ∃ b d', (eCall F_law_rare (xs [(eVar 0), a])).sem (some d :: r) = .ok (.v (.bl b)) (some d' :: r) true ∧ Dg d' := by
  obtain ⟨b, d', q1, q2⟩ := rare_ok hd h0 hm
  obtain ⟨ts, rfl⟩ := dg_shape hd
  refine ⟨b, d', e_call (ρ1 := some (.lst ts) :: r) (τ := false) (os := [.p 0 [], .v (.int m)]) (ts := [.lst ts, .int m]) ?_ rfl rfl rfl q1 rfl, q2⟩
  exact ev2 (τ1 := false) (τ2 := false) (v_lst rfl) ha rfl rfl
/-! ### shuffled -/
theorem shuffled_ok {d : T} (hd : Dg d) {row : List T} (him : T.imms row = true) (hl : row.length ≤ 1000) :
    ∃ out d', φ_law_shuffled [d, .lst row] = .ok (.lst out) [some d', some (.lst row)] ∧ Dg d' ∧ out.length = row.length ∧ ∀ t ∈ out, t ∈ row := by
  obtain ⟨ts0, e0⟩ := dg_shape hd
  have lst : (eList (eVar 1)).sem [some d, some (.lst row), none, none, none] = .ok (.v (.lst row)) [some d, some (.lst row), none, none, none] false := e_list (v_lst rfl) rfl rfl him
  have s1 : (sSet (gN 2) (eList (eVar 1))).sem [some d, some (.lst row), none, none, none] = .nx [some d, some (.lst row), some (.lst row), none, none] := s_set lst rfl
  have s2 : (sSet (gN 3) (eLst (xs []))).sem [some d, some (.lst row), some (.lst row), none, none] = .nx [some d, some (.lst row), some (.lst row), some (.lst []), none] := s_set (ρ1 := [some d, some (.lst row), some (.lst row), none, none]) (t := .lst []) (τ := false) rfl rfl
  have rg : (iRange1 (eLen (eVar 1))).sem [some d, some (.lst row), some (.lst row), some (.lst []), none] = .ok (rangeL 0 row.length) [some d, some (.lst row), some (.lst row), some (.lst []), none] false false := rg1 (len_var rfl) (small62_of ⟨by omega, by omega⟩)
  obtain ⟨ρ', e, d', left, found, st, g1, rfl, g2, g3, g4, g5⟩ := for_inv (set := (gN 4).sem) (b := (blk [sExpr (eAppend (eVar 3) (ePopAt (eVar 2) (eCall F_law_draw (xs [(eVar 0), (eLen (eVar 2))]))))]).sem)
    (fun items ρ => ∃ d left found st, Dg d ∧ ρ = [some d, some (.lst row), some (.lst left), some (.lst found), st] ∧ left.length = items.length ∧ found.length + left.length = row.length ∧ (∀ t ∈ left, t ∈ row) ∧ (∀ t ∈ found, t ∈ row))
    (fun t ts ρ ⟨d, left, found, st, g1, e, g2, g3, g4, g5⟩ => by
      subst e
      simp only [List.length_cons] at g2
      obtain ⟨k, d2, q1, q2, q3, q4, q5⟩ := e_draw g1 (m := left.length) (by omega) (a := eLen (eVar 2)) (r := [some (.lst row), some (.lst left), some (.lst found), some t]) (len_var rfl)
      have hk : k < (left.length : Int) := by
        by_cases h : (left.length : Int) < 2
        · rw [q4 h]; omega
        · exact q5 (by omega)
      have hk' : k.toNat < left.length := by omega
      have pp := e_popAt (i := 2) (us := left) (ts := left) rfl q1 rfl (ixN_in q3 hk) (List.getElem?_eq_getElem hk') (by rw [sizeLine_eq]; omega)
      refine ⟨[some d, some (.lst row), some (.lst left), some (.lst found), some t], _, rfl, (b_nx (s_app (ts := found) (ts1 := found) rfl pp rfl (by rw [sizeLine_eq]; omega))).trans b_nil, d2, left.eraseIdx k.toNat, found ++ [left[k.toNat]], some t, q2, rfl, ?_, ?_, fun u hu => g4 u (List.mem_of_mem_eraseIdx hu), fun u hu => ?_⟩
      · rw [List.length_eraseIdx_of_lt hk']; omega
      · rw [List.length_eraseIdx_of_lt hk', List.length_append, List.length_cons, List.length_nil]; omega
      · rcases List.mem_append.mp hu with hu | hu
        · exact g5 u hu
        · have : u = left[k.toNat] := by simpa using hu
          rw [this]
          exact g4 _ (List.getElem_mem hk'))
    (rangeL 0 row.length) [some d, some (.lst row), some (.lst row), some (.lst []), none] ⟨d, row, [], none, hd, rfl, by rw [rangeL_len]; omega, by simp, fun t h => h, fun t h => by cases h⟩
  refine ⟨found, d', fn_ret (b := b_law_shuffled) rfl ((b_nx s1).trans ((b_nx s2).trans ((b_nx ((s_for rg).trans e)).trans (b_ret (s_ret_p (v_lst rfl) rfl))))) (by rw [e0]; rfl) (by rw [e0]; rfl), g1, ?_, g5⟩
  simp only [List.length_nil] at g2
  omega
theorem e_shuf {d : T} (hd : Dg d) {row : List T} (him : T.imms row = true) (hl : row.length ≤ 1000) {i : Nat} {r : Rho} (h : r[i]? = some (some (.lst row))) :
    ∃ out d', (eCall F_law_shuffled (xs [(eVar 0), (eVar (i + 1))])).sem (some d :: r) = .ok (.v (.lst out)) (some d' :: r) true ∧ Dg d' ∧ out.length = row.length ∧ ∀ t ∈ out, t ∈ row := by
  obtain ⟨out, d', q1, q2, q3, q4⟩ := shuffled_ok hd him hl
  obtain ⟨ts, rfl⟩ := dg_shape hd
  have h' : (some (T.lst ts) :: r)[i + 1]? = some (some (.lst row)) := by simpa using h
  refine ⟨out, d', e_call (F := F_law_shuffled) (ρ1 := some (.lst ts) :: r) (τ := false) (os := [.p 0 [], .p (i + 1) []]) (ts := [.lst ts, .lst row]) (ev2 (τ1 := false) (τ2 := false) (v_lst rfl) (v_lst h') rfl (by simp only [O.there, h'])) ?_ rfl ?_ q1 ?_, q2, q3, q4⟩
  · simp only [getOs, getO, h', List.getElem?_cons_zero, T.at]
  · simp [slots, O.slot, nodupB]
  · have hi : i < r.length := by
      rcases Nat.lt_or_ge i r.length with z | z
      · exact z
      · rw [List.getElem?_eq_none z] at h; cases h
    have hg : r[i] = some (.lst row) := by rw [List.getElem?_eq_getElem hi] at h; simpa using h
    simp only [wb, List.getElem?_cons_zero, List.set_cons_zero, List.getElem?_cons_succ, h, T.put, List.set_cons_succ]
    rw [← hg, List.set_getElem_self]
end K81
set_option Elab.async false
set_option linter.all false
set_option maxRecDepth 100000
set_option maxHeartbeats 1000000
/-! k81: links. -/
namespace K81
open PySem L2 Pv
abbrev lk (p : Nat × Nat) : T := .tup [.int p.1, .int p.2]
def LkIn (n : Nat) (t : T) : Prop := ∃ a b : Nat, t = lk (a, b) ∧ a < n ∧ b < n
theorem lk_imm {n : Nat} {P : List T} (h : ∀ t ∈ P, LkIn n t) : T.imms P = true := imms_of fun t ht => by
  obtain ⟨a, b, rfl, _⟩ := h t ht
  rfl
theorem lk_lay {n : Nat} : ∀ {P : List T}, (∀ t ∈ P, LkIn n t) → PyData.canLayAll0 (T.toDs P) = true ∧ PyData.depthAll (T.toDs P) ≤ 1
  | [], _ => ⟨rfl, Nat.zero_le _⟩
  | t :: P, h => by
    obtain ⟨a, b, rfl, _⟩ := h t List.mem_cons_self
    obtain ⟨h1, h2⟩ := lk_lay (P := P) fun u hu => h u (List.mem_cons_of_mem _ hu)
    refine ⟨?_, ?_⟩
    · show (true && PyData.canLayAll0 (T.toDs P)) = true
      rw [h1]; rfl
    · show max 1 (PyData.depthAll (T.toDs P)) ≤ 1
      omega
theorem lk_shaped {n : Nat} {P : List T} (h : ∀ t ∈ P, LkIn n t) : SeqAt.shaped (T.lst P).toD = true := by
  obtain ⟨h1, h2⟩ := lk_lay h
  show (PyData.canLayAll0 (T.toDs P) && decide (PyData.depthAll (T.toDs P) + 1 ≤ 64)) = true
  rw [h1, decide_eq_true (by omega)]; rfl
theorem lk_in {n : Nat} {P : List T} (h : ∀ t ∈ P, LkIn n t) (a b : Int) : ∃ k, inT (.tup [.int a, .int b]) (.lst P) = some k := by
  have s : SeqAt.shaped (T.tup [.int a, .int b]).toD = true := rfl
  exact ⟨_, if_pos ⟨s, lk_shaped h⟩⟩
theorem lk_list {n : Nat} : ∀ {P : List T}, (∀ t ∈ P, LkIn n t) → ∃ ls : List (Nat × Nat), P = ls.map lk ∧ ∀ p ∈ ls, p.1 < n ∧ p.2 < n
  | [], _ => ⟨[], rfl, fun p h => by cases h⟩
  | t :: P, h => by
    obtain ⟨a, b, rfl, h1, h2⟩ := h t List.mem_cons_self
    obtain ⟨ls, rfl, h3⟩ := lk_list (P := P) fun u hu => h u (List.mem_cons_of_mem _ hu)
    exact ⟨(a, b) :: ls, rfl, fun p hp => by
      rcases List.mem_cons.mp hp with rfl | hp
      · exact ⟨h1, h2⟩
      · exact h3 p hp⟩
theorem mem_app1 {Q : T → Prop} {P : List T} {t : T} (h : ∀ u ∈ P, Q u) (ht : Q t) : ∀ u ∈ P ++ [t], Q u := fun u hu => by
  rcases List.mem_append.mp hu with hu | hu
  · exact h u hu
  · have : u = t := by simpa using hu
    rw [this]; exact ht
abbrev rL (d : T) (n x : Nat) (P sw L o1 o2 st F : Option T) : Rho := [some d, some (.int n), some (.int x), P, sw, L, o1, o2, st, F]
def lk1 : Bl := blk [sIf (bNot (bTruth (eCall F_law_rare (xs [(eVar 0), (eInt 12)])))) (blk [sExpr (eAppend (eVar 3) (eTup (xs [(eCall F_law_draw (xs [(eVar 0), (eVar 4)])), (eVar 4)])))]) (blk [])]
theorem links1 {d : T} (hd : Dg d) {n x : Nat} (hn : 2 ≤ n) (hn2 : n ≤ 4) : ∃ ρ', forF (gN 4).sem lk1.sem (rangeL 1 n) (rL d n x (some (.lst [])) none none none none none none) = .nx ρ' ∧
    ∃ d' P sw, ρ' = rL d' n x (some (.lst P)) sw none none none none none ∧ Dg d' ∧ (∀ t ∈ P, LkIn n t) ∧ P.length ≤ 3 := by
  obtain ⟨ρ', e, d', P, sw, e2, g1, g2, g3, g4⟩ := for_inv (set := (gN 4).sem) (b := lk1.sem)
    (fun items ρ => ∃ d P sw, ρ = rL d n x (some (.lst P)) sw none none none none none ∧ Dg d ∧ (∀ t ∈ P, LkIn n t) ∧ P.length + items.length ≤ 3 ∧ ∀ t ∈ items, ∃ k : Nat, t = .int k ∧ k < n)
    (fun t ts ρ ⟨d, P, sw, e, g1, g2, g3, g4⟩ => by
      subst e
      obtain ⟨k, rfl, hk⟩ := g4 t List.mem_cons_self
      simp only [List.length_cons] at g3
      have g4' : ∀ u ∈ ts, ∃ k : Nat, u = .int k ∧ k < n := fun u hu => g4 u (List.mem_cons_of_mem _ hu)
      obtain ⟨b, d1, q1, q2⟩ := e_rare g1 (m := 12) (by decide) (by decide) (a := eInt 12) (r := [some (.int n), some (.int x), some (.lst P), some (.int k), none, none, none, none, none]) rfl
      have c := b_not (b_tru (k := b) q1 rfl rfl)
      cases b with
      | true =>
        exact ⟨rL d n x (some (.lst P)) (some (.int k)) none none none none none, _, rfl, (b_nx ((i_f c).trans rfl)).trans b_nil, d1, P, some (.int k), rfl, q2, g2, by omega, g4'⟩
      | false =>
        obtain ⟨j, d2, p1, p2, p3, p4, p5⟩ := e_draw q2 (m := k) (by omega) (a := eVar 4) (r := [some (.int n), some (.int x), some (.lst P), some (.int k), none, none, none, none, none]) rfl
        have hj : j < n := by
          by_cases h : (k : Int) < 2
          · rw [p4 h]; omega
          · have := p5 (by omega); omega
        have tp : (eTup (xs [(eCall F_law_draw (xs [(eVar 0), (eVar 4)])), (eVar 4)])).sem (rL d1 n x (some (.lst P)) (some (.int k)) none none none none none) = .ok (.v (lk (j.toNat, k))) (rL d2 n x (some (.lst P)) (some (.int k)) none none none none none) true := by
          have := e_tup (a := xs [(eCall F_law_draw (xs [(eVar 0), (eVar 4)])), (eVar 4)]) (ρ := rL d1 n x (some (.lst P)) (some (.int k)) none none none none none) (ρ1 := rL d2 n x (some (.lst P)) (some (.int k)) none none none none none) (ts := [.int j, .int k]) (evc p1 (evc (ρ1 := rL d2 n x (some (.lst P)) (some (.int k)) none none none none none) (t := .int k) (τ1 := false) rfl evn)) (show 2 ≤ 10000 by decide)
          rw [show lk (j.toNat, k) = .tup [.int j, .int k] by show T.tup [.int (j.toNat : Int), .int (k : Int)] = _; rw [Int.toNat_of_nonneg p3]]
          exact this
        refine ⟨rL d n x (some (.lst P)) (some (.int k)) none none none none none, _, rfl, (b_nx ((i_t c).trans ((b_nx (s_app (ts := P) (ts1 := P) rfl tp rfl (by rw [sizeLine_eq]; omega))).trans b_nil))).trans b_nil, d2, P ++ [lk (j.toNat, k)], some (.int k), rfl, p2, mem_app1 g2 ⟨j.toNat, k, rfl, by omega, hk⟩, ?_, g4'⟩
        simp only [List.length_append, List.length_cons, List.length_nil]; omega)
    (rangeL 1 n) (rL d n x (some (.lst [])) none none none none none none) ⟨d, [], none, rfl, hd, fun t h => (by cases h), by rw [rangeL_len]; simp only [List.length_nil]; omega, fun t ht => by
      obtain ⟨k, rfl, hk⟩ := rangeL_mem ht
      exact ⟨1 + k, by congr 1, by omega⟩⟩
  exact ⟨ρ', e, d', P, sw, e2, g1, g2, by simpa using g3⟩
def lk2i : Bl := blk [sIf (bCmp .NotIn (eTup (xs [(eVar 6), (eVar 7)])) (eVar 3)) (blk [sExpr (eAppend (eVar 5) (eTup (xs [(eVar 6), (eVar 7)])))]) (blk [])]
def lk2 : Bl := blk [sFor (gN 7) (iRange2 (eBin .Add (eVar 6) (eInt 1)) (eVar 1)) lk2i]
theorem links2i {d : T} (hd : Dg d) {n x : Nat} (hn2 : n ≤ 4) {P : List T} (hP : ∀ t ∈ P, LkIn n t) {sw : Option T} {o B : Nat} (ho : o < n) (hB : B ≤ 1000) : ∀ (items : List T) (ρ : Rho), (∃ L o2, ρ = rL d n x (some (.lst P)) sw (some (.lst L)) (some (.int o)) o2 none none ∧ (∀ t ∈ L, LkIn n t) ∧ L.length + items.length ≤ B ∧ ∀ t ∈ items, ∃ k : Nat, t = .int k ∧ k < n) →
    ∃ ρ', forF (gN 7).sem lk2i.sem items ρ = .nx ρ' ∧ ∃ L o2, ρ' = rL d n x (some (.lst P)) sw (some (.lst L)) (some (.int o)) o2 none none ∧ (∀ t ∈ L, LkIn n t) ∧ L.length ≤ B := by
  intro items ρ h
  refine (for_inv (set := (gN 7).sem) (b := lk2i.sem) (fun items ρ => ∃ L o2, ρ = rL d n x (some (.lst P)) sw (some (.lst L)) (some (.int o)) o2 none none ∧ (∀ t ∈ L, LkIn n t) ∧ L.length + items.length ≤ B ∧ ∀ t ∈ items, ∃ k : Nat, t = .int k ∧ k < n) ?_ items ρ h).imp fun ρ' ⟨e, L, o2, e2, g1, g2, g3⟩ => ⟨e, L, o2, e2, g1, by simpa using g2⟩
  rintro t ts ρ ⟨L, o2, rfl, g1, g2, g3⟩
  obtain ⟨k, rfl, hk⟩ := g3 t List.mem_cons_self
  have g3' : ∀ u ∈ ts, ∃ k : Nat, u = .int k ∧ k < n := fun u hu => g3 u (List.mem_cons_of_mem _ hu)
  simp only [List.length_cons] at g2
  let ρ1 : Rho := rL d n x (some (.lst P)) sw (some (.lst L)) (some (.int o)) (some (.int k)) none none
  have tp : (eTup (xs [(eVar 6), (eVar 7)])).sem ρ1 = .ok (.v (lk (o, k))) ρ1 false := rfl
  obtain ⟨b, hb⟩ := lk_in hP o k
  have c : (bCmp .NotIn (eTup (xs [(eVar 6), (eVar 7)])) (eVar 3)).sem ρ1 = .ok (!b) ρ1 false := b_cmp (τ1 := false) (τ2 := false) (o2 := .p 3 []) (y := .lst P) tp (v_lst rfl) rfl rfl rfl rfl (by
    show (inT _ _).map (!·) = _
    rw [show lk (o, k) = .tup [.int (o : Int), .int (k : Int)] from rfl, hb]; rfl)
  cases b with
  | true => exact ⟨ρ1, ρ1, rfl, (b_nx ((i_f c).trans rfl)).trans b_nil, L, some (.int k), rfl, g1, by omega, g3'⟩
  | false =>
    refine ⟨ρ1, rL d n x (some (.lst P)) sw (some (.lst (L ++ [lk (o, k)]))) (some (.int o)) (some (.int k)) none none, rfl, (b_nx ((i_t c).trans ((b_nx (s_app (ts := L) (ts1 := L) rfl tp rfl (by rw [sizeLine_eq]; omega))).trans b_nil))).trans b_nil, L ++ [lk (o, k)], some (.int k), rfl, mem_app1 g1 ⟨o, k, rfl, ho, hk⟩, ?_, g3'⟩
    simp only [List.length_append, List.length_cons, List.length_nil]; omega
end K81
set_option Elab.async false
set_option linter.all false
set_option maxRecDepth 100000
set_option maxHeartbeats 1000000
/-! k81: links, all. -/
namespace K81
open PySem L2 Pv
theorem links2 {d : T} (hd : Dg d) {n x : Nat} (hn2 : n ≤ 4) {P : List T} (hP : ∀ t ∈ P, LkIn n t) {sw : Option T} : ∃ ρ', forF (gN 6).sem lk2.sem (rangeL 0 n) (rL d n x (some (.lst P)) sw (some (.lst [])) none none none none) = .nx ρ' ∧
    ∃ L o1 o2, ρ' = rL d n x (some (.lst P)) sw (some (.lst L)) o1 o2 none none ∧ (∀ t ∈ L, LkIn n t) ∧ L.length ≤ 16 := by
  obtain ⟨ρ', e, L, o1, o2, e2, g1, g2, _⟩ := for_inv (set := (gN 6).sem) (b := lk2.sem)
    (fun items ρ => ∃ L o1 o2, ρ = rL d n x (some (.lst P)) sw (some (.lst L)) o1 o2 none none ∧ (∀ t ∈ L, LkIn n t) ∧ L.length + 4 * items.length ≤ 16 ∧ ∀ t ∈ items, ∃ k : Nat, t = .int k ∧ k < n)
    (fun t ts ρ ⟨L, o1, o2, e, g1, g2, g3⟩ => by
      subst e
      obtain ⟨k, rfl, hk⟩ := g3 t List.mem_cons_self
      have g3' : ∀ u ∈ ts, ∃ k : Nat, u = .int k ∧ k < n := fun u hu => g3 u (List.mem_cons_of_mem _ hu)
      simp only [List.length_cons] at g2
      let ρ1 : Rho := rL d n x (some (.lst P)) sw (some (.lst L)) (some (.int k)) o2 none none
      have rg : (iRange2 (eBin .Add (eVar 6) (eInt 1)) (eVar 1)).sem ρ1 = .ok (rangeL (k + 1) n) ρ1 false false := rg2 (τ1 := false) (τ2 := false) (i := (k : Int) + 1) (j := n) rfl rfl (small62_of ⟨by omega, by omega⟩) (small62_of ⟨by omega, by omega⟩)
      obtain ⟨ρ2, e, L', o2', e2, p1, p2⟩ := links2i hd hn2 hP (sw := sw) hk (B := L.length + 4) (by omega) (rangeL (k + 1) n) ρ1 ⟨L, o2, rfl, g1, by rw [rangeL_len]; omega, fun t ht => by
        obtain ⟨j, rfl, hj⟩ := rangeL_mem ht
        exact ⟨k + 1 + j, by congr 1, by omega⟩⟩
      exact ⟨ρ1, ρ2, rfl, (b_nx ((s_for rg).trans e)).trans b_nil, L', some (.int k), o2', e2, p1, by omega, g3'⟩)
    (rangeL 0 n) (rL d n x (some (.lst P)) sw (some (.lst [])) none none none none) ⟨[], none, none, rfl, fun t h => (by cases h), by rw [rangeL_len]; simp only [List.length_nil]; omega, fun t ht => by
      obtain ⟨k, rfl, hk⟩ := rangeL_mem ht
      exact ⟨k, by congr 1; omega, by omega⟩⟩
  exact ⟨ρ', e, L, o1, o2, e2, g1, by simpa using g2⟩
def lk3 : Bl := blk [sIf (bCmp .Gt (eLen (eVar 5)) (eInt 0)) (blk [sExpr (eAppend (eVar 3) (ePopAt (eVar 5) (eCall F_law_draw (xs [(eVar 0), (eLen (eVar 5))]))))]) (blk [])]
theorem links3 {d : T} (hd : Dg d) {n x : Nat} {P L : List T} (hP : ∀ t ∈ P, LkIn n t) (hL : ∀ t ∈ L, LkIn n t) (lP : P.length ≤ 3) (lL : L.length ≤ 16) (hx : x ≤ 2) {sw o1 o2 : Option T} : ∃ ρ', forF (gN 8).sem lk3.sem (rangeL 0 x) (rL d n x (some (.lst P)) sw (some (.lst L)) o1 o2 none none) = .nx ρ' ∧
    ∃ d' P L st, ρ' = rL d' n x (some (.lst P)) sw (some (.lst L)) o1 o2 st none ∧ Dg d' ∧ (∀ t ∈ P, LkIn n t) ∧ P.length ≤ 5 := by
  obtain ⟨ρ', e, d', P, L, st, e2, g1, g2, g3, g4, g5⟩ := for_inv (set := (gN 8).sem) (b := lk3.sem)
    (fun items ρ => ∃ d P L st, ρ = rL d n x (some (.lst P)) sw (some (.lst L)) o1 o2 st none ∧ Dg d ∧ (∀ t ∈ P, LkIn n t) ∧ (∀ t ∈ L, LkIn n t) ∧ P.length + items.length ≤ 5 ∧ L.length ≤ 16)
    (fun t ts ρ ⟨d, P, L, st, e, g1, g2, g3, g4, g5⟩ => by
      subst e
      simp only [List.length_cons] at g4
      have ln : (eLen (eVar 5)).sem (rL d n x (some (.lst P)) sw (some (.lst L)) o1 o2 (some t) none) = .ok (.v (.int L.length)) (rL d n x (some (.lst P)) sw (some (.lst L)) o1 o2 (some t) none) false := len_var rfl
      have c : (bCmp .Gt (eLen (eVar 5)) (eInt 0)).sem (rL d n x (some (.lst P)) sw (some (.lst L)) o1 o2 (some t) none) = .ok (decide ((0 : Int) < L.length)) (rL d n x (some (.lst P)) sw (some (.lst L)) o1 o2 (some t) none) false := b_cmp (τ2 := false) (o2 := .v (.int 0)) (y := .int 0) ln rfl rfl rfl rfl rfl rfl
      by_cases h : (0 : Int) < L.length
      · rw [decide_eq_true h] at c
        obtain ⟨k, d2, q1, q2, q3, q4, q5⟩ := e_draw g1 (m := L.length) (by omega) (a := eLen (eVar 5)) (r := [some (.int n), some (.int x), some (.lst P), sw, some (.lst L), o1, o2, some t, none]) ln
        have hk : k < (L.length : Int) := by
          by_cases h : (L.length : Int) < 2
          · rw [q4 h]; omega
          · exact q5 (by omega)
        have hk' : k.toNat < L.length := by omega
        have pp := e_popAt (i := 5) (us := L) (ts := L) rfl q1 rfl (ixN_in q3 hk) (List.getElem?_eq_getElem hk') (by rw [sizeLine_eq]; omega)
        refine ⟨rL d n x (some (.lst P)) sw (some (.lst L)) o1 o2 (some t) none, _, rfl, (b_nx ((i_t c).trans ((b_nx (s_app (ts := P) (ts1 := P) rfl pp rfl (by rw [sizeLine_eq]; omega))).trans b_nil))).trans b_nil, d2, P ++ [L[k.toNat]], L.eraseIdx k.toNat, some t, rfl, q2, mem_app1 g2 (g3 _ (List.getElem_mem hk')), fun u hu => g3 u (List.mem_of_mem_eraseIdx hu), ?_, ?_⟩
        · simp only [List.length_append, List.length_cons, List.length_nil]; omega
        · rw [List.length_eraseIdx_of_lt hk']; omega
      · rw [decide_eq_false h] at c
        exact ⟨rL d n x (some (.lst P)) sw (some (.lst L)) o1 o2 (some t) none, _, rfl, (b_nx ((i_f c).trans rfl)).trans b_nil, d, P, L, some t, rfl, g1, g2, g3, by omega, g5⟩)
    (rangeL 0 x) (rL d n x (some (.lst P)) sw (some (.lst L)) o1 o2 none none) ⟨d, P, L, none, rfl, hd, hP, hL, by rw [rangeL_len]; omega, lL⟩
  exact ⟨ρ', e, d', P, L, st, e2, g1, g2, by simpa using g4⟩
def lk4 : Bl := blk [sExpr (eAppend (eVar 9) (eIf (bCmp .Eq (eCall F_law_draw (xs [(eVar 0), (eInt 2)])) (eInt 0)) (eTup (xs [(eVar 6), (eVar 7)])) (eTup (xs [(eVar 7), (eVar 6)]))))]
theorem links4 {d : T} (hd : Dg d) {n x : Nat} {S : List T} (hS : ∀ t ∈ S, LkIn n t) (lS : S.length ≤ 5) {P sw L o1 o2 st : Option T} : ∃ ρ', forF (gT [6, 7]).sem lk4.sem S (rL d n x P sw L o1 o2 st (some (.lst []))) = .nx ρ' ∧
    ∃ d' F o1 o2, ρ' = rL d' n x P sw L o1 o2 st (some (.lst F)) ∧ Dg d' ∧ (∀ t ∈ F, LkIn n t) ∧ F.length ≤ 5 := by
  obtain ⟨ρ', e, d', F, o1, o2, e2, g1, g2, g3, _⟩ := for_inv (set := (gT [6, 7]).sem) (b := lk4.sem)
    (fun items ρ => ∃ d F o1 o2, ρ = rL d n x P sw L o1 o2 st (some (.lst F)) ∧ Dg d ∧ (∀ t ∈ F, LkIn n t) ∧ F.length + items.length ≤ 5 ∧ ∀ t ∈ items, LkIn n t)
    (fun t ts ρ ⟨d, F, o1, o2, e, g1, g2, g3, g4⟩ => by
      subst e
      simp only [List.length_cons] at g3
      obtain ⟨a, b, rfl, ha, hb⟩ := g4 t List.mem_cons_self
      have g4' : ∀ u ∈ ts, LkIn n u := fun u hu => g4 u (List.mem_cons_of_mem _ hu)
      obtain ⟨k, d2, q1, q2, _⟩ := e_draw g1 (m := 2) (by decide) (a := eInt 2) (r := [some (.int n), some (.int x), P, sw, L, some (.int a), some (.int b), st, some (.lst F)]) rfl
      have c : (bCmp .Eq (eCall F_law_draw (xs [(eVar 0), (eInt 2)])) (eInt 0)).sem (rL d n x P sw L (some (.int a)) (some (.int b)) st (some (.lst F))) = .ok (k == 0) (rL d2 n x P sw L (some (.int a)) (some (.int b)) st (some (.lst F))) true := b_cmp (τ2 := false) (o2 := .v (.int 0)) (y := .int 0) q1 rfl rfl rfl rfl rfl rfl
      have fin : ∀ {u : T} {k2 : Bool}, (k == 0) = k2 → (if k2 = true then (eTup (xs [(eVar 6), (eVar 7)])).sem (rL d2 n x P sw L (some (.int a)) (some (.int b)) st (some (.lst F))) else (eTup (xs [(eVar 7), (eVar 6)])).sem (rL d2 n x P sw L (some (.int a)) (some (.int b)) st (some (.lst F)))) = .ok (.v u) (rL d2 n x P sw L (some (.int a)) (some (.int b)) st (some (.lst F))) false → LkIn n u →
          ∃ ρ1 ρ2, (gT [6, 7]).sem (lk (a, b)) (rL d n x P sw L o1 o2 st (some (.lst F))) = some ρ1 ∧ lk4.sem ρ1 = .nx ρ2 ∧ ∃ d F o1 o2, ρ2 = rL d n x P sw L o1 o2 st (some (.lst F)) ∧ Dg d ∧ (∀ t ∈ F, LkIn n t) ∧ F.length + ts.length ≤ 5 ∧ ∀ t ∈ ts, LkIn n t := fun {u k2} hk h hu => by
        rw [hk] at c
        refine ⟨rL d n x P sw L (some (.int a)) (some (.int b)) st (some (.lst F)), _, rfl, (b_nx (s_app (ts := F) (ts1 := F) rfl (e_if (τ2 := false) c h) rfl (by rw [sizeLine_eq]; omega))).trans b_nil, d2, F ++ [u], some (.int a), some (.int b), rfl, q2, mem_app1 g2 hu, ?_, g4'⟩
        simp only [List.length_append, List.length_cons, List.length_nil]; omega
      cases hk : (k == 0) with
      | true => exact fin hk (u := lk (a, b)) rfl ⟨a, b, rfl, ha, hb⟩
      | false => exact fin hk (u := lk (b, a)) rfl ⟨b, a, rfl, hb, ha⟩)
    S (rL d n x P sw L o1 o2 st (some (.lst []))) ⟨d, [], o1, o2, rfl, hd, fun t h => (by cases h), by simpa using lS, hS⟩
  exact ⟨ρ', e, d', F, o1, o2, e2, g1, g2, by simpa using g3⟩
theorem links_ok {d : T} (hd : Dg d) {n x : Nat} (hn : 2 ≤ n) (hn2 : n ≤ 4) (hx : x ≤ 2) : ∃ (ls : List (Nat × Nat)) (d' : T), φ_law_links [d, .int n, .int x] = .ok (.lst (ls.map lk)) [some d', some (.int n), some (.int x)] ∧ Dg d' ∧ ls.length ≤ 5 ∧ ∀ p ∈ ls, p.1 < n ∧ p.2 < n := by
  obtain ⟨ts0, e0⟩ := dg_shape hd
  have cal : calmArgs b_law_links.asg 0 [d, .int n, .int x] = true := by rw [e0]; rfl
  have s1 : (sSet (gN 3) (eLst (xs []))).sem (rL d n x none none none none none none none) = .nx (rL d n x (some (.lst [])) none none none none none none) := s_set (ρ1 := rL d n x none none none none none none none) (t := .lst []) (τ := false) rfl rfl
  obtain ⟨ρ1, e1, d1, P, sw, rfl, p1, p2, p3⟩ := links1 hd (x := x) hn hn2
  have rg1' : (iRange2 (eInt 1) (eVar 1)).sem (rL d n x (some (.lst [])) none none none none none none) = .ok (rangeL 1 n) (rL d n x (some (.lst [])) none none none none none none) false false := rg2 (τ1 := false) (τ2 := false) (i := 1) (j := n) rfl rfl (by decide) (small62_of ⟨by omega, by omega⟩)
  have s2 : (sSet (gN 5) (eLst (xs []))).sem (rL d1 n x (some (.lst P)) sw none none none none none) = .nx (rL d1 n x (some (.lst P)) sw (some (.lst [])) none none none none) := s_set (ρ1 := rL d1 n x (some (.lst P)) sw none none none none none) (t := .lst []) (τ := false) rfl rfl
  obtain ⟨ρ2, e2, L, o1, o2, rfl, q1, q2⟩ := links2 p1 (x := x) hn2 p2 (sw := sw)
  have rg2' : (iRange1 (eVar 1)).sem (rL d1 n x (some (.lst P)) sw (some (.lst [])) none none none none) = .ok (rangeL 0 n) (rL d1 n x (some (.lst P)) sw (some (.lst [])) none none none none) false false := rg1 (τ := false) (j := n) rfl (small62_of ⟨by omega, by omega⟩)
  obtain ⟨ρ3, e3, d3, P3, L3, st3, rfl, r1, r2, r3⟩ := links3 p1 (x := x) p2 q1 p3 q2 hx (sw := sw) (o1 := o1) (o2 := o2)
  have rg3' : (iRange1 (eVar 2)).sem (rL d1 n x (some (.lst P)) sw (some (.lst L)) o1 o2 none none) = .ok (rangeL 0 x) (rL d1 n x (some (.lst P)) sw (some (.lst L)) o1 o2 none none) false false := rg1 (τ := false) (j := x) rfl (small62_of ⟨by omega, by omega⟩)
  have s4 : (sSet (gN 9) (eLst (xs []))).sem (rL d3 n x (some (.lst P3)) sw (some (.lst L3)) o1 o2 st3 none) = .nx (rL d3 n x (some (.lst P3)) sw (some (.lst L3)) o1 o2 st3 (some (.lst []))) := s_set (ρ1 := rL d3 n x (some (.lst P3)) sw (some (.lst L3)) o1 o2 st3 none) (t := .lst []) (τ := false) rfl rfl
  obtain ⟨S, d4, t1, t2, t3, t4⟩ := e_shuf r1 (row := P3) (lk_imm r2) (by omega) (i := 2) (r := [some (.int n), some (.int x), some (.lst P3), sw, some (.lst L3), o1, o2, st3, some (.lst [])]) rfl
  have hS : ∀ t ∈ S, LkIn n t := fun t ht => r2 t (t4 t ht)
  have it : (iSeq (eCall F_law_shuffled (xs [(eVar 0), (eVar 3)]))).sem (rL d3 n x (some (.lst P3)) sw (some (.lst L3)) o1 o2 st3 (some (.lst []))) = .ok S (rL d4 n x (some (.lst P3)) sw (some (.lst L3)) o1 o2 st3 (some (.lst []))) true false := by
    show iLift (eCall F_law_shuffled (xs [(eVar 0), (eVar 3)])).sem seqI _ = _
    unfold iLift
    rw [t1]
    simp only [seqI, getO, lk_imm hS, if_true]
    rfl
  obtain ⟨ρ5, e5, d5, F, o1', o2', rfl, u1, u2, u3⟩ := links4 t2 (x := x) hS (by omega) (P := some (.lst P3)) (sw := sw) (L := some (.lst L3)) (o1 := o1) (o2 := o2) (st := st3)
  obtain ⟨ls, rfl, hls⟩ := lk_list u2
  refine ⟨ls, d5, fn_ret (b := b_law_links) rfl ((b_nx s1).trans ((b_nx ((s_for rg1').trans e1)).trans ((b_nx s2).trans ((b_nx ((s_for rg2').trans e2)).trans ((b_nx ((s_for rg3').trans e3)).trans ((b_nx s4).trans ((b_nx ((s_for it).trans e5)).trans (b_ret (s_ret_p (v_lst rfl) rfl))))))))) ?_ cal, u1, ?_, hls⟩
  · rw [e0]; rfl
  · simpa using u3
end K81
set_option Elab.async false
set_option linter.all false
set_option maxRecDepth 100000
set_option maxHeartbeats 1000000
/-! k81: hosts, the world. -/
namespace K81
open PySem L2 Pv
theorem e_pickV {d : T} (hd : Dg d) {row : List T} (him : T.imms row = true) (hne : 0 < row.length) (hl : row.length < 1073741824) {i : Nat} {r : Rho} (h : r[i]? = some (some (.lst row))) :
    ∃ x d', x ∈ row ∧ (eCall F_law_pick (xs [(eVar 0), (eVar (i + 1))])).sem (some d :: r) = .ok (.v x) (some d' :: r) true ∧ Dg d' := by
  obtain ⟨x, d', q0, q1, q2⟩ := pick_ok hd him hne hl
  obtain ⟨ts, rfl⟩ := dg_shape hd
  have h' : (some (T.lst ts) :: r)[i + 1]? = some (some (.lst row)) := by simpa using h
  refine ⟨x, d', q0, e_call (F := F_law_pick) (ρ1 := some (.lst ts) :: r) (τ := false) (os := [.p 0 [], .p (i + 1) []]) (ts := [.lst ts, .lst row]) (ev2 (τ1 := false) (τ2 := false) (v_lst rfl) (v_lst h') rfl (by simp only [O.there, h'])) ?_ rfl ?_ q1 ?_, q2⟩
  · simp only [getOs, getO, h', List.getElem?_cons_zero, T.at]
  · simp [slots, O.slot, nodupB]
  · have hi : i < r.length := by
      rcases Nat.lt_or_ge i r.length with z | z
      · exact z
      · rw [List.getElem?_eq_none z] at h; cases h
    have hg : r[i] = some (.lst row) := by rw [List.getElem?_eq_getElem hi] at h; simpa using h
    simp only [wb, List.getElem?_cons_zero, List.set_cons_zero, List.getElem?_cons_succ, h, T.put, List.set_cons_succ]
    rw [← hg, List.set_getElem_self]
abbrev ho (p : Nat × Str) : T := .tup [.int p.1, .str p.2, .int 0]
def HoIn (n : Nat) (tn : List T) (t : T) : Prop := ∃ (h : Nat) (s : Str), t = ho (h, s) ∧ h < n ∧ .str s ∈ tn
theorem ho_list {n : Nat} {tn : List T} : ∀ {P : List T}, (∀ t ∈ P, HoIn n tn t) → ∃ hs : List (Nat × Str), P = hs.map ho ∧ ∀ h ∈ hs, h.1 < n ∧ .str h.2 ∈ tn
  | [], _ => ⟨[], rfl, fun p h => by cases h⟩
  | t :: P, h => by
    obtain ⟨a, b, rfl, h1⟩ := h t List.mem_cons_self
    obtain ⟨hs, rfl, h3⟩ := ho_list (P := P) fun u hu => h u (List.mem_cons_of_mem _ hu)
    exact ⟨(a, b) :: hs, rfl, fun p hp => by
      rcases List.mem_cons.mp hp with rfl | hp
      · exact h1
      · exact h3 p hp⟩
theorem hosts_ok {d : T} (hd : Dg d) {n c : Nat} (hn : 2 ≤ n) (hn2 : n ≤ 4) (hc : c ≤ 3) {tn : List T} (ht : ∀ t ∈ tn, ∃ s, t = .str s) (hl : 0 < tn.length) (hl2 : tn.length ≤ 4) :
    ∃ (hs : List (Nat × Str)) (d' : T), φ_law_hosts [d, .int c, .int n, .lst tn] = .ok (.lst (hs.map ho)) [some d', some (.int c), some (.int n), some (.lst tn)] ∧ Dg d' ∧ hs.length = c ∧ ∀ h ∈ hs, h.1 < n ∧ .str h.2 ∈ tn := by
  obtain ⟨ts0, e0⟩ := dg_shape hd
  have im : T.imms tn = true := imms_of fun t h => by obtain ⟨s, rfl⟩ := ht t h; rfl
  have cal : calmArgs b_law_hosts.asg 0 [d, .int c, .int n, .lst tn] = true := by rw [e0]; rfl
  have s1 : (sSet (gN 4) (eLst (xs []))).sem [some d, some (.int c), some (.int n), some (.lst tn), none, none, none] = .nx [some d, some (.int c), some (.int n), some (.lst tn), some (.lst []), none, none] := s_set (ρ1 := [some d, some (.int c), some (.int n), some (.lst tn), none, none, none]) (t := .lst []) (τ := false) rfl rfl
  have rg : (iRange1 (eVar 1)).sem [some d, some (.int c), some (.int n), some (.lst tn), some (.lst []), none, none] = .ok (rangeL 0 c) [some d, some (.int c), some (.int n), some (.lst tn), some (.lst []), none, none] false false := rg1 (τ := false) (j := c) rfl (small62_of ⟨by omega, by omega⟩)
  obtain ⟨ρ', e, d', F, x, y, e2, g1, g2, g3⟩ := for_inv (set := (gN 5).sem) (b := (blk [sSet (gN 6) (eCall F_law_pick (xs [(eVar 0), (eVar 3)])), sExpr (eAppend (eVar 4) (eTup (xs [(eCall F_law_draw (xs [(eVar 0), (eVar 2)])), (eVar 6), (eInt 0)])))]).sem)
    (fun items ρ => ∃ d F x y, ρ = [some d, some (.int c), some (.int n), some (.lst tn), some (.lst F), x, y] ∧ Dg d ∧ F.length + items.length = c ∧ ∀ t ∈ F, HoIn n tn t)
    (fun t ts ρ ⟨d, F, x, y, e, g1, g2, g3⟩ => by
      subst e
      simp only [List.length_cons] at g2
      obtain ⟨u, d1, p0, p1, p2⟩ := e_pickV g1 im hl (by omega) (i := 2) (r := [some (.int c), some (.int n), some (.lst tn), some (.lst F), some t, y]) rfl
      obtain ⟨s, rfl⟩ := ht u p0
      obtain ⟨k, d2, q1, q2, q3, q4, q5⟩ := e_draw p2 (m := n) (by omega) (a := eVar 2) (r := [some (.int c), some (.int n), some (.lst tn), some (.lst F), some t, some (.str s)]) rfl
      have q5 := q5 (by omega)
      let ρ2 : Rho := [some d2, some (.int c), some (.int n), some (.lst tn), some (.lst F), some t, some (.str s)]
      have tp : (eTup (xs [(eCall F_law_draw (xs [(eVar 0), (eVar 2)])), (eVar 6), (eInt 0)])).sem [some d1, some (.int c), some (.int n), some (.lst tn), some (.lst F), some t, some (.str s)] = .ok (.v (ho (k.toNat, s))) ρ2 true := by
        have := e_tup (a := xs [(eCall F_law_draw (xs [(eVar 0), (eVar 2)])), (eVar 6), (eInt 0)]) (ρ := [some d1, some (.int c), some (.int n), some (.lst tn), some (.lst F), some t, some (.str s)]) (ρ1 := ρ2) (ts := [.int k, .str s, .int 0]) (evc q1 (evc (ρ1 := ρ2) (t := .str s) (τ1 := false) rfl (evc (ρ1 := ρ2) (t := .int 0) (τ1 := false) rfl evn))) (show 3 ≤ 10000 by decide)
        rw [show ho (k.toNat, s) = .tup [.int k, .str s, .int 0] by show T.tup [.int (k.toNat : Int), .str s, .int 0] = _; rw [Int.toNat_of_nonneg q3]]
        exact this
      refine ⟨[some d, some (.int c), some (.int n), some (.lst tn), some (.lst F), some t, y], _, rfl, (b_nx (s_set p1 rfl)).trans ((b_nx (s_app (ts := F) (ts1 := F) rfl tp rfl (by rw [sizeLine_eq]; omega))).trans b_nil), d2, F ++ [ho (k.toNat, s)], some t, some (.str s), rfl, q2, ?_, mem_app1 g3 ⟨k.toNat, s, rfl, by omega, p0⟩⟩
      simp only [List.length_append, List.length_cons, List.length_nil]; omega)
    (rangeL 0 c) [some d, some (.int c), some (.int n), some (.lst tn), some (.lst []), none, none] ⟨d, [], none, none, rfl, hd, by rw [rangeL_len]; simp only [List.length_nil]; omega, fun t h => by cases h⟩
  subst e2
  obtain ⟨hs, rfl, hh⟩ := ho_list g3
  exact ⟨hs, d', fn_ret (b := b_law_hosts) rfl ((b_nx s1).trans ((b_nx ((s_for rg).trans e)).trans (b_ret (s_ret_p (v_lst rfl) rfl)))) (by rw [e0]; rfl) cal, g1, by simpa using g2, hh⟩
end K81
set_option Elab.async false
set_option linter.all false
set_option maxRecDepth 100000
set_option maxHeartbeats 1000000
/-! k81: cubes. -/
namespace K81
open PySem L2 Pv
theorem and_nat (a b : Nat) : Builtin.bitAnd (a : Int) (b : Int) = ((a &&& b : Nat) : Int) := by
  unfold Builtin.bitAnd
  rw [decide_eq_true (Int.natCast_nonneg a), decide_eq_true (Int.natCast_nonneg b)]
  rfl
theorem e_pickT {d : T} (hd : Dg d) {row : List T} (him : T.imms row = true) (hne : 0 < row.length) (hl : row.length < 1073741824) {a : Ex} {r : Rho} {τ : Bool} (ha : a.sem (some d :: r) = .ok (.v (.lst row)) (some d :: r) τ) :
    ∃ x d', x ∈ row ∧ (eCall F_law_pick (xs [(eVar 0), a])).sem (some d :: r) = .ok (.v x) (some d' :: r) true ∧ Dg d' := by
  obtain ⟨x, d', q0, q1, q2⟩ := pick_ok hd him hne hl
  obtain ⟨ts, rfl⟩ := dg_shape hd
  refine ⟨x, d', q0, ?_, q2⟩
  have := e_call (F := F_law_pick) (ρ1 := some (.lst ts) :: r) (τ := false || τ) (os := [.p 0 [], .v (.lst row)]) (ts := [.lst ts, .lst row]) (a := xs [(eVar 0), a]) (ρ := some (.lst ts) :: r) (ρ2 := some d' :: r) (ev2 (τ1 := false) (v_lst rfl) ha rfl rfl) rfl rfl rfl q1 rfl
  rw [show (slots [O.p 0 [], O.v (T.lst row)]).isEmpty = false from rfl] at this
  simpa using this
theorem nat_of {k : Int} (h : 0 ≤ k) : ∃ j : Nat, k = j := ⟨k.toNat, (Int.toNat_of_nonneg h).symm⟩
theorem e_drawN {d : T} (hd : Dg d) {m : Nat} (h2 : 2 ≤ m) (hm : m < 1000) {a : Ex} {r : Rho} (ha : a.sem (some d :: r) = .ok (.v (.int m)) (some d :: r) false) :
    ∃ (k : Nat) (d' : T), (eCall F_law_draw (xs [(eVar 0), a])).sem (some d :: r) = .ok (.v (.int k)) (some d' :: r) true ∧ Dg d' ∧ k < m := by
  obtain ⟨k, d', q1, q2, q3, q4, q5⟩ := e_draw hd (m := m) (by omega) ha
  obtain ⟨j, rfl⟩ := nat_of q3
  exact ⟨j, d', q1, q2, by have := q5 (by omega); omega⟩
theorem e_andN {a b : Ex} {ρ ρ1 ρ2 : Rho} {x y : Nat} {τ1 τ2 : Bool} (h1 : a.sem ρ = .ok (.v (.int x)) ρ1 τ1) (h2 : b.sem ρ1 = .ok (.v (.int y)) ρ2 τ2) : (eBin .BitAnd a b).sem ρ = .ok (.v (.int (x &&& y : Nat))) ρ2 (τ1 || τ2) :=
  e_bin (o1 := .v (.int x)) (o2 := .v (.int y)) h1 h2 rfl rfl rfl rfl (by rw [← and_nat]; rfl)
theorem and_lt {x y m : Nat} (h : x < m) : x &&& y < m := Nat.lt_of_le_of_lt Nat.and_le_left h
theorem and_sub (x y : Nat) : (x &&& y) &&& y = x &&& y := by rw [Nat.and_assoc, Nat.and_self]
theorem cube_ok {d : T} (hd : Dg d) {bits : Nat} (hb : bits = 1 ∨ bits = 2) : ∃ (c v : Nat) (d' : T), φ_law_cube [d, .int bits] = .ok (.tup [.int c, .int v]) [some d', some (.int bits)] ∧ Dg d' ∧ c < 4 ∧ v < 4 ∧ v &&& c = v := by
  obtain ⟨ts0, e0⟩ := dg_shape hd
  obtain ⟨m, hm, sh⟩ : ∃ m : Nat, (m = 2 ∨ m = 4) ∧ ∀ (d : T) (r : Rho), (eBin .LShift (eInt 1) (eVar 1)).sem (some d :: some (.int bits) :: r) = .ok (.v (.int m)) (some d :: some (.int bits) :: r) false := by
    rcases hb with rfl | rfl
    · exact ⟨2, .inl rfl, fun d r => by kernel_rfl⟩
    · exact ⟨4, .inr rfl, fun d r => by kernel_rfl⟩
  obtain ⟨k1, d1, q1, g1, b1⟩ := e_drawN hd (m := m) (by omega) (by omega) (r := [some (.int bits), none]) (sh d [none])
  have s1 : (sSet (gN 2) (eCall F_law_draw (xs [(eVar 0), (eBin .LShift (eInt 1) (eVar 1))]))).sem [some d, some (.int bits), none] = .nx [some d1, some (.int bits), some (.int k1)] := s_set q1 rfl
  obtain ⟨k2, d2, q2, g2, b2⟩ := e_drawN g1 (m := m) (by omega) (by omega) (r := [some (.int bits), some (.int k1)]) (sh d1 [some (.int k1)])
  have v2 : (eVar 2).sem [some d2, some (.int bits), some (.int k1)] = .ok (.v (.int k1)) [some d2, some (.int bits), some (.int k1)] false := rfl
  have tp := e_tup (a := xs [(eVar 2), (eBin .BitAnd (eCall F_law_draw (xs [(eVar 0), (eBin .LShift (eInt 1) (eVar 1))])) (eVar 2))]) (ρ := [some d1, some (.int bits), some (.int k1)]) (ts := [.int k1, .int (k2 &&& k1 : Nat)]) (evc (t := .int k1) (τ1 := false) (ρ1 := [some d1, some (.int bits), some (.int k1)]) rfl (evc (e_andN q2 v2) evn)) (show 2 ≤ 10000 by decide)
  exact ⟨k1, k2 &&& k1, d2, fn_ret (b := b_law_cube) rfl ((b_nx s1).trans (b_ret (s_ret tp))) (by rw [e0]; rfl) (by rw [e0]; rfl), g2, by omega, and_lt (by omega), and_sub _ _⟩
end K81
set_option Elab.async false
set_option linter.all false
set_option maxRecDepth 100000
set_option maxHeartbeats 1000000
/-! k81: targets. -/
namespace K81
open PySem L2 Pv
def tenants : List Str := ["red", "blue", "all"]
def tgtB (a b : Str) : Bool := decide (a = b) || (decide (a = "all") || decide (b = "all"))
/-- hosts of the same tenant, or of all -/
def tgts (hs : List (Nat × Str)) (h : Nat) : List Nat := (List.range hs.length).filter fun k => decide (k ≠ h) && tgtB ((hs.getD h (0, "")).2) ((hs.getD k (0, "")).2)
theorem targets2 (x0 x1 x2 x3 x5 x6 x7 x8 x9 : T) {a b : Nat × Str} (ha : a.2 ∈ tenants) (hb : b.2 ∈ tenants) {h : Nat} (hh : h < 2) :
    φ_law_targets [.lst [x0, x1, x2, x3, .lst [ho a, ho b], x5, x6, x7, x8, x9], .int h] = .ok (.lst ((tgts [a, b] h).map fun (k : Nat) => T.int k)) [some (.lst [x0, x1, x2, x3, .lst [ho a, ho b], x5, x6, x7, x8, x9]), some (.int h)] := by
  obtain ⟨a, s⟩ := a
  obtain ⟨b, t⟩ := b
  simp only [tenants, List.mem_cons, List.not_mem_nil, or_false] at ha hb
  obtain rfl | rfl : h = 0 ∨ h = 1 := by omega
  all_goals rcases ha with rfl | rfl | rfl
  all_goals rcases hb with rfl | rfl | rfl
  all_goals kernel_rfl
theorem targets3 (x0 x1 x2 x3 x5 x6 x7 x8 x9 : T) {a b c : Nat × Str} (ha : a.2 ∈ tenants) (hb : b.2 ∈ tenants) (hc : c.2 ∈ tenants) {h : Nat} (hh : h < 3) :
    φ_law_targets [.lst [x0, x1, x2, x3, .lst [ho a, ho b, ho c], x5, x6, x7, x8, x9], .int h] = .ok (.lst ((tgts [a, b, c] h).map fun (k : Nat) => T.int k)) [some (.lst [x0, x1, x2, x3, .lst [ho a, ho b, ho c], x5, x6, x7, x8, x9]), some (.int h)] := by
  obtain ⟨a, s⟩ := a
  obtain ⟨b, t⟩ := b
  obtain ⟨c, u⟩ := c
  simp only [tenants, List.mem_cons, List.not_mem_nil, or_false] at ha hb hc
  obtain rfl | rfl | rfl : h = 0 ∨ h = 1 ∨ h = 2 := by omega
  all_goals rcases ha with rfl | rfl | rfl
  all_goals rcases hb with rfl | rfl | rfl
  all_goals rcases hc with rfl | rfl | rfl
  all_goals kernel_rfl
end K81
set_option Elab.async false
set_option linter.all false
set_option maxRecDepth 100000
set_option maxHeartbeats 1000000
/-! k81: what a wish reads of the world. -/
namespace K81
open PySem L2 Pv
abbrev wH (dat n : Nat) (x1 x3 : T) (hs : List (Nat × Str)) (x5 x6 x7 x8 x9 : T) : T := .lst [.int dat, x1, .int n, x3, .lst (hs.map ho), x5, x6, x7, x8, x9]
structure HsOk (n : Nat) (hs : List (Nat × Str)) : Prop where
  len : hs.length = 2 ∨ hs.length = 3
  home : ∀ h ∈ hs, h.1 < n
  ten : ∀ h ∈ hs, h.2 ∈ tenants
theorem hs_cases {n : Nat} {hs : List (Nat × Str)} (k : HsOk n hs) : (∃ a b, hs = [a, b]) ∨ ∃ a b c, hs = [a, b, c] := by
  obtain ⟨h, _, _⟩ := k
  rcases hs with _ | ⟨a, _ | ⟨b, _ | ⟨c, _ | ⟨e, hs⟩⟩⟩⟩
  · simp at h
  · simp at h
  · exact .inl ⟨a, b, rfl⟩
  · exact .inr ⟨a, b, c, rfl⟩
  · simp at h
theorem targets_ok {dat n : Nat} {x1 x3 : T} {hs : List (Nat × Str)} {x5 x6 x7 x8 x9 : T} (k : HsOk n hs) {h : Nat} (hh : h < hs.length) : φ_law_targets [wH dat n x1 x3 hs x5 x6 x7 x8 x9, .int h] = .ok (.lst ((tgts hs h).map fun (k : Nat) => T.int k)) [some (wH dat n x1 x3 hs x5 x6 x7 x8 x9), some (.int h)] := by
  rcases hs_cases k with ⟨a, b, rfl⟩ | ⟨a, b, c, rfl⟩
  · exact targets2 _ _ _ _ _ _ _ _ _ (k.ten a (by simp)) (k.ten b (by simp)) hh
  · exact targets3 _ _ _ _ _ _ _ _ _ (k.ten a (by simp)) (k.ten b (by simp)) (k.ten c (by simp)) hh
theorem tgts_lt {hs : List (Nat × Str)} {h k : Nat} (hk : k ∈ tgts hs h) : k < hs.length := by
  have := (List.mem_filter.mp hk).1
  exact List.mem_range.mp this
theorem avoid_small : ∀ (a : Fin 16) (e : Fin 4), 0 ≤ Builtin.bitAnd (a.val : Int) (-1 - 1 * 2 ^ e.val) ∧ Builtin.bitAnd (a.val : Int) (-1 - 1 * 2 ^ e.val) ≤ a.val := by decide +kernel
end K81
set_option Elab.async false
set_option linter.all false
set_option maxRecDepth 100000
set_option maxHeartbeats 2000000
/-! k81: wishes, the first part. -/
namespace K81
open PySem L2 Pv
theorem evp {s : Rho → R} {ss : List (Rho → R)} {ρ ρ1 ρ2 : Rho} {i : Nat} {os : List O} {τ1 τ2 : Bool} (h : s ρ = .ok (.p i []) ρ1 τ1) (h2 : evL ss ρ1 = .ok os ρ2 τ2) (th : O.there ρ2 (.p i []) = true) : evL (s :: ss) ρ = .ok (.p i [] :: os) ρ2 (τ1 || τ2) := by
  have e : evL (s :: ss) ρ = (match s ρ with
    | .ok o ρ1 τ1 => match evL ss ρ1 with
      | .ok os ρ2 τ2 => if (o.deep && τ2) || !o.there ρ2 then .stuck else .ok (o :: os) ρ2 (τ1 || τ2)
      | .ex c t ρ2 => .ex c t ρ2
      | .stuck => .stuck
    | .ex c t ρ1 => .ex c t ρ1
    | .stuck => .stuck) := rfl
  rw [e, h]
  simp only
  rw [h2]
  simp only
  rw [if_neg (by simp [O.deep, th])]
abbrev rV (d w : T) (h c v tg t via st av en se : Option T) : Rho := [some d, some w, some (.int 1), some (.int 1), h, c, v, tg, t, via, st, av, en, se]
section
variable {dat n : Nat} {x1 x3 : T} {hs : List (Nat × Str)} {x5 x6 x7 x8 x9 : T}
theorem wi_len (d : T) (r : Rho) : (eLen (eIx (eVar 1) (eInt 4))).sem (some d :: some (wH dat n x1 x3 hs x5 x6 x7 x8 x9) :: r) = .ok (.v (.int hs.length)) (some d :: some (wH dat n x1 x3 hs x5 x6 x7 x8 x9) :: r) false := by
  have : (eLen (eIx (eVar 1) (eInt 4))).sem (some d :: some (wH dat n x1 x3 hs x5 x6 x7 x8 x9) :: r) = .ok (.v (.int (hs.map ho).length)) (some d :: some (wH dat n x1 x3 hs x5 x6 x7 x8 x9) :: r) false := by kernel_rfl
  rw [List.length_map] at this
  exact this
theorem wi_dat (d : T) (r : Rho) : (eIx (eVar 1) (eInt 0)).sem (some d :: some (wH dat n x1 x3 hs x5 x6 x7 x8 x9) :: r) = .ok (.v (.int dat)) (some d :: some (wH dat n x1 x3 hs x5 x6 x7 x8 x9) :: r) false := by kernel_rfl
theorem wi_n (d : T) (r : Rho) : (eIx (eVar 1) (eInt 2)).sem (some d :: some (wH dat n x1 x3 hs x5 x6 x7 x8 x9) :: r) = .ok (.v (.int n)) (some d :: some (wH dat n x1 x3 hs x5 x6 x7 x8 x9) :: r) false := by kernel_rfl
theorem wi_cube {d : T} (hd : Dg d) (hb : dat = 1 ∨ dat = 2) {r : Rho} : ∃ (c v : Nat) (d' : T), (eCall F_law_cube (xs [(eVar 0), (eIx (eVar 1) (eInt 0))])).sem (some d :: some (wH dat n x1 x3 hs x5 x6 x7 x8 x9) :: r) = .ok (.v (.tup [.int c, .int v])) (some d' :: some (wH dat n x1 x3 hs x5 x6 x7 x8 x9) :: r) true ∧ Dg d' ∧ c < 4 ∧ v < 4 ∧ v &&& c = v := by
  obtain ⟨c, v, d', q1, q2, q3⟩ := cube_ok hd hb
  obtain ⟨ts, rfl⟩ := dg_shape hd
  exact ⟨c, v, d', e_callF (F := F_law_cube) (φ := φ_law_cube) rfl (ρ1 := some (.lst ts) :: some (wH dat n x1 x3 hs x5 x6 x7 x8 x9) :: r) (τ := false) (os := [.p 0 [], .v (.int dat)]) (ts := [.lst ts, .int dat]) (evp (τ1 := false) (τ2 := false) (v_lst rfl) (evc (τ1 := false) (τ2 := false) (wi_dat _ _) evn) rfl) rfl rfl rfl q1 rfl, q2, q3⟩
end
end K81
set_option Elab.async false
set_option linter.all false
set_option maxRecDepth 100000
set_option maxHeartbeats 2000000
/-! k81: wishes, host and cube. -/
namespace K81
open PySem L2 Pv
def wi1 : Sx := sSet (gN 4) (eCall F_law_draw (xs [(eVar 0), (eLen (eIx (eVar 1) (eInt 4)))]))
def wi2 : Sx := sSet (gT [5, 6]) (eCall F_law_cube (xs [(eVar 0), (eIx (eVar 1) (eInt 0))]))
def wi3 : Sx := sIf (bCmp .Gt (eCall F_law_draw (xs [(eVar 0), (eInt 3)])) (eInt 0)) (blk [sSet (gN 5) (eBin .BitAnd (eVar 5) (eCall F_law_draw (xs [(eVar 0), (eBin .LShift (eInt 1) (eIx (eVar 1) (eInt 0)))]))), sSet (gN 6) (eBin .BitAnd (eVar 6) (eVar 5))]) (blk [])
section
variable {dat n : Nat} {x1 x3 : T} {hs : List (Nat × Str)} {x5 x6 x7 x8 x9 : T}
theorem wish1 {d : T} (hd : Dg d) (hb : dat = 1 ∨ dat = 2) (k : HsOk n hs) : ∃ (h c v : Nat) (d' : T), (blk [wi1, wi2, wi3]).sem (rV d (wH dat n x1 x3 hs x5 x6 x7 x8 x9) none none none none none none none none none none) =
    .nx (rV d' (wH dat n x1 x3 hs x5 x6 x7 x8 x9) (some (.int h)) (some (.int c)) (some (.int v)) none none none none none none none) ∧ Dg d' ∧ h < hs.length ∧ c < 4 ∧ v < 4 := by
  have hl := k.len
  obtain ⟨h, d1, q1, g1, b1⟩ := e_drawN hd (m := hs.length) (by omega) (by omega) (r := [some (wH dat n x1 x3 hs x5 x6 x7 x8 x9), some (.int 1), some (.int 1), none, none, none, none, none, none, none, none, none, none]) (wi_len _ _)
  have s1 : wi1.sem (rV d (wH dat n x1 x3 hs x5 x6 x7 x8 x9) none none none none none none none none none none) = .nx (rV d1 (wH dat n x1 x3 hs x5 x6 x7 x8 x9) (some (.int h)) none none none none none none none none none) := s_set q1 rfl
  obtain ⟨c, v, d2, q2, g2, c4, v4, _⟩ := wi_cube g1 hb (n := n) (x1 := x1) (x3 := x3) (hs := hs) (x5 := x5) (x6 := x6) (x7 := x7) (x8 := x8) (x9 := x9) (r := [some (.int 1), some (.int 1), some (.int h), none, none, none, none, none, none, none, none, none])
  have s2 : wi2.sem (rV d1 (wH dat n x1 x3 hs x5 x6 x7 x8 x9) (some (.int h)) none none none none none none none none none) = .nx (rV d2 (wH dat n x1 x3 hs x5 x6 x7 x8 x9) (some (.int h)) (some (.int c)) (some (.int v)) none none none none none none none) := s_set q2 rfl
  obtain ⟨k3, d3, q3, g3, b3⟩ := e_drawN g2 (m := 3) (by omega) (by omega) (a := eInt 3) (r := [some (wH dat n x1 x3 hs x5 x6 x7 x8 x9), some (.int 1), some (.int 1), some (.int h), some (.int c), some (.int v), none, none, none, none, none, none, none]) rfl
  have cc : (bCmp .Gt (eCall F_law_draw (xs [(eVar 0), (eInt 3)])) (eInt 0)).sem (rV d2 (wH dat n x1 x3 hs x5 x6 x7 x8 x9) (some (.int h)) (some (.int c)) (some (.int v)) none none none none none none none) = .ok (decide ((0 : Int) < k3)) (rV d3 (wH dat n x1 x3 hs x5 x6 x7 x8 x9) (some (.int h)) (some (.int c)) (some (.int v)) none none none none none none none) true := b_cmp (τ2 := false) (o2 := .v (.int 0)) (y := .int 0) q3 rfl rfl rfl rfl rfl rfl
  by_cases hk : (0 : Int) < k3
  · rw [decide_eq_true hk] at cc
    obtain ⟨m, hm, sh⟩ : ∃ m : Nat, (m = 2 ∨ m = 4) ∧ (eBin .LShift (eInt 1) (eIx (eVar 1) (eInt 0))).sem (rV d3 (wH dat n x1 x3 hs x5 x6 x7 x8 x9) (some (.int h)) (some (.int c)) (some (.int v)) none none none none none none none) = .ok (.v (.int m)) (rV d3 (wH dat n x1 x3 hs x5 x6 x7 x8 x9) (some (.int h)) (some (.int c)) (some (.int v)) none none none none none none none) false := by
      rcases hb with rfl | rfl
      · exact ⟨2, .inl rfl, by kernel_rfl⟩
      · exact ⟨4, .inr rfl, by kernel_rfl⟩
    obtain ⟨k4, d4, q4, g4, b4⟩ := e_drawN g3 (m := m) (by omega) (by omega) (r := [some (wH dat n x1 x3 hs x5 x6 x7 x8 x9), some (.int 1), some (.int 1), some (.int h), some (.int c), some (.int v), none, none, none, none, none, none, none]) sh
    have t1 := s_set (tg := gN 5) (e_andN (a := eVar 5) (τ1 := false) (x := c) (v_imm rfl rfl) q4) (ρ2 := rV d4 (wH dat n x1 x3 hs x5 x6 x7 x8 x9) (some (.int h)) (some (.int (c &&& k4 : Nat))) (some (.int v)) none none none none none none none) rfl
    have t2 := s_set (tg := gN 6) (e_andN (a := eVar 6) (b := eVar 5) (τ1 := false) (τ2 := false) (ρ := rV d4 (wH dat n x1 x3 hs x5 x6 x7 x8 x9) (some (.int h)) (some (.int (c &&& k4 : Nat))) (some (.int v)) none none none none none none none) (x := v) (y := c &&& k4) (v_imm rfl rfl) (v_imm rfl rfl)) (ρ2 := rV d4 (wH dat n x1 x3 hs x5 x6 x7 x8 x9) (some (.int h)) (some (.int (c &&& k4 : Nat))) (some (.int (v &&& (c &&& k4) : Nat))) none none none none none none none) rfl
    exact ⟨h, c &&& k4, v &&& (c &&& k4), d4, (b_nx s1).trans ((b_nx s2).trans ((b_nx ((i_t cc).trans ((b_nx t1).trans ((b_nx t2).trans b_nil)))).trans b_nil)), g4, b1, and_lt c4, and_lt v4⟩
  · rw [decide_eq_false hk] at cc
    exact ⟨h, c, v, d3, (b_nx s1).trans ((b_nx s2).trans ((b_nx ((i_f cc).trans rfl)).trans b_nil)), g3, b1, c4, v4⟩
end
end K81
set_option Elab.async false
set_option linter.all false
set_option maxRecDepth 100000
set_option maxHeartbeats 2000000
/-! k81: wishes, setting. -/
namespace K81
open PySem L2 Pv
def wiS : Sx := sIf (bCmp .Eq (eCall F_law_draw (xs [(eVar 0), (eInt 2)])) (eInt 0)) (blk [sSet (gN 13) (eCall F_law_cube (xs [(eVar 0), (eIx (eVar 1) (eInt 0))]))]) (blk [])
section
variable {dat n : Nat} {x1 x3 : T} {hs : List (Nat × Str)} {x5 x6 x7 x8 x9 : T}
theorem wishS {d : T} (hd : Dg d) (hb : dat = 1 ∨ dat = 2) {h c v tg t via st av en : Option T} : ∃ (a b : Nat) (d' : T), wiS.sem (rV d (wH dat n x1 x3 hs x5 x6 x7 x8 x9) h c v tg t via st av en (some (.tup [.int 0, .int 0]))) =
    .nx (rV d' (wH dat n x1 x3 hs x5 x6 x7 x8 x9) h c v tg t via st av en (some (.tup [.int a, .int b]))) ∧ Dg d' ∧ a < 4 ∧ b < 4 := by
  obtain ⟨k, d1, q1, g1, b1⟩ := e_drawN hd (m := 2) (by omega) (by omega) (a := eInt 2) (r := [some (wH dat n x1 x3 hs x5 x6 x7 x8 x9), some (.int 1), some (.int 1), h, c, v, tg, t, via, st, av, en, some (.tup [.int 0, .int 0])]) rfl
  have cc : (bCmp .Eq (eCall F_law_draw (xs [(eVar 0), (eInt 2)])) (eInt 0)).sem (rV d (wH dat n x1 x3 hs x5 x6 x7 x8 x9) h c v tg t via st av en (some (.tup [.int 0, .int 0]))) = .ok ((k : Int) == 0) (rV d1 (wH dat n x1 x3 hs x5 x6 x7 x8 x9) h c v tg t via st av en (some (.tup [.int 0, .int 0]))) true := b_cmp (τ2 := false) (o2 := .v (.int 0)) (y := .int 0) q1 rfl rfl rfl rfl rfl rfl
  cases e : ((k : Int) == 0) with
  | true =>
    rw [e] at cc
    obtain ⟨a, b, d2, q2, g2, a4, b4, _⟩ := wi_cube g1 hb (n := n) (x1 := x1) (x3 := x3) (hs := hs) (x5 := x5) (x6 := x6) (x7 := x7) (x8 := x8) (x9 := x9) (r := [some (.int 1), some (.int 1), h, c, v, tg, t, via, st, av, en, some (.tup [.int 0, .int 0])])
    exact ⟨a, b, d2, (i_t cc).trans ((b_nx (s_set q2 rfl)).trans b_nil), g2, a4, b4⟩
  | false =>
    rw [e] at cc
    exact ⟨0, 0, d1, (i_f cc).trans rfl, g1, by omega, by omega⟩
end
end K81
set_option Elab.async false
set_option linter.all false
set_option maxRecDepth 100000
set_option maxHeartbeats 2000000
/-! k81: wishes, way points and what is avoided. -/
namespace K81
open PySem L2 Pv
abbrev nI (k : Nat) : T := .int k
def wiV : Sx := sSet (gN 9) (eTuple (eLc ⟨[10], (gN 10), (iRange1 (eCall F_law_draw (xs [(eVar 0), (eBin .Add (eVar 2) (eInt 1))]))), none, (eCall F_law_draw (xs [(eVar 0), (eIx (eVar 1) (eInt 2))]))⟩))
def wiA : Sx := sIf (bCmp .Eq (eCall F_law_draw (xs [(eVar 0), (eInt 3)])) (eInt 0)) (blk [sSet (gN 11) (eBin .LShift (eInt 1) (eCall F_law_draw (xs [(eVar 0), (eIx (eVar 1) (eInt 2))])))]) (blk [])
def wiF : Sx := sFor (gN 12) (iSeq (eBin .Add (eLst (xs [(eIx (eIx (eIx (eVar 1) (eInt 4)) (eVar 4)) (eInt 0)), (eIx (eIx (eIx (eVar 1) (eInt 4)) (eVar 8)) (eInt 0))])) (eList (eVar 9)))) (blk [sSet (gN 11) (eBin .BitAnd (eVar 11) (eBin .Sub (eNeg (eInt 1)) (eBin .LShift (eInt 1) (eVar 12))))])
/-- nothing, or one switch -/
def Av (n av : Nat) : Prop := av = 0 ∨ ∃ k, k < n ∧ av = 2 ^ k
theorem av_and : ∀ (k e : Fin 4), Builtin.bitAnd ((2 ^ k.val : Nat) : Int) (-1 - 1 * 2 ^ e.val) = if k = e then 0 else ((2 ^ k.val : Nat) : Int) := by decide +kernel
theorem av_and0 : ∀ (e : Fin 4), Builtin.bitAnd ((0 : Nat) : Int) (-1 - 1 * 2 ^ e.val) = 0 := by decide +kernel
theorem av_step {n av e : Nat} (hn : n ≤ 4) (h : Av n av) (he : e < n) : ∃ av' : Nat, Builtin.bitAnd (av : Int) (-1 - 1 * 2 ^ e) = av' ∧ Av n av' := by
  rcases h with rfl | ⟨k, hk, rfl⟩
  · exact ⟨0, av_and0 ⟨e, by omega⟩, .inl rfl⟩
  · have := av_and ⟨k, by omega⟩ ⟨e, by omega⟩
    by_cases z : (⟨k, by omega⟩ : Fin 4) = ⟨e, by omega⟩
    · rw [if_pos z] at this
      exact ⟨0, this, .inl rfl⟩
    · rw [if_neg z] at this
      exact ⟨2 ^ k, this, .inr ⟨k, hk, rfl⟩⟩
section
variable {dat n : Nat} {x1 x3 : T} {hs : List (Nat × Str)} {x5 x6 x7 x8 x9 : T}
theorem e_drawW {d : T} (hd : Dg d) (hn : 2 ≤ n) (hn2 : n ≤ 4) {r : Rho} : ∃ (k : Nat) (d' : T), (eCall F_law_draw (xs [(eVar 0), (eIx (eVar 1) (eInt 2))])).sem (some d :: some (wH dat n x1 x3 hs x5 x6 x7 x8 x9) :: r) = .ok (.v (.int k)) (some d' :: some (wH dat n x1 x3 hs x5 x6 x7 x8 x9) :: r) true ∧ Dg d' ∧ k < n :=
  e_drawN hd (m := n) hn (by omega) (wi_n _ _)
theorem wishV {d : T} (hd : Dg d) (hn : 2 ≤ n) (hn2 : n ≤ 4) {h c v tg t av en se : Option T} : ∃ (via : List Nat) (d' : T), wiV.sem (rV d (wH dat n x1 x3 hs x5 x6 x7 x8 x9) h c v tg t none none av en se) =
    .nx (rV d' (wH dat n x1 x3 hs x5 x6 x7 x8 x9) h c v tg t (some (.tup (via.map nI))) none av en se) ∧ Dg d' ∧ via.length ≤ 1 ∧ ∀ x ∈ via, x < n := by
  obtain ⟨k, d1, q1, g1, b1⟩ := e_drawN hd (m := 2) (by omega) (by omega) (a := eBin .Add (eVar 2) (eInt 1)) (r := [some (wH dat n x1 x3 hs x5 x6 x7 x8 x9), some (.int 1), some (.int 1), h, c, v, tg, t, none, none, av, en, se]) rfl
  have rg := rg1 (a := eCall F_law_draw (xs [(eVar 0), (eBin .Add (eVar 2) (eInt 1))])) q1 (small62_of ⟨by omega, by omega⟩)
  obtain ⟨acc, ρ', τ', e, d2, via, e2, g2, e3, g3, g4⟩ := lc_inv (set := (gN 10).sem) (tt := Lc.tt ⟨[10], (gN 10), (iRange1 (eCall F_law_draw (xs [(eVar 0), (eBin .Add (eVar 2) (eInt 1))]))), none, (eCall F_law_draw (xs [(eVar 0), (eIx (eVar 1) (eInt 2))]))⟩) (te := (eCall F_law_draw (xs [(eVar 0), (eIx (eVar 1) (eInt 2))])).sem) (vs := [10])
    (fun items acc ρ => ∃ (d : T) (via : List Nat), ρ = rV d (wH dat n x1 x3 hs x5 x6 x7 x8 x9) h c v tg t none none av en se ∧ Dg d ∧ acc = via.map nI ∧ (∀ x ∈ via, x < n) ∧ via.length + items.length ≤ 1)
    (fun y ts acc ρ ⟨d, via, e, g1, e2, g2, g3⟩ => by
      subst e e2
      simp only [List.length_cons] at g3
      obtain ⟨k, d3, q3, g4, b3⟩ := e_drawW g1 hn hn2 (dat := dat) (x1 := x1) (x3 := x3) (hs := hs) (x5 := x5) (x6 := x6) (x7 := x7) (x8 := x8) (x9 := x9) (r := [some (.int 1), some (.int 1), h, c, v, tg, t, none, some y, av, en, se])
      refine ⟨by rw [List.length_map, sizeLine_eq]; omega, rV d (wH dat n x1 x3 hs x5 x6 x7 x8 x9) h c v tg t none (some y) av en se, _, false, rfl, .inl ⟨.int k, _, true, rfl, q3, d3, via ++ [k], rfl, g4, by simp, fun x hx => ?_, by simp only [List.length_append, List.length_cons, List.length_nil]; omega⟩⟩
      rcases List.mem_append.mp hx with hx | hx
      · exact g2 x hx
      · have : x = k := by simpa using hx
        omega)
    (rangeL 0 k) [] (rV d1 (wH dat n x1 x3 hs x5 x6 x7 x8 x9) h c v tg t none none av en se) false ⟨d1, [], rfl, g1, rfl, fun x hx => (by cases hx), by rw [rangeL_len]; simp only [List.length_nil]; omega⟩
  subst e2 e3
  have lc := e_lc (l := ⟨[10], (gN 10), (iRange1 (eCall F_law_draw (xs [(eVar 0), (eBin .Add (eVar 2) (eInt 1))]))), none, (eCall F_law_draw (xs [(eVar 0), (eIx (eVar 1) (eInt 2))]))⟩) rg rfl e (.inl rfl)
  have im : T.imms (via.map nI) = true := imms_of fun t ht => by obtain ⟨x, _, rfl⟩ := List.mem_map.mp ht; rfl
  exact ⟨via, d2, s_set (e_tuple lc rfl rfl im) rfl, g2, by simpa using g4, g3⟩
theorem wishA {d : T} (hd : Dg d) (hn : 2 ≤ n) (hn2 : n ≤ 4) {h c v tg t via st en se : Option T} : ∃ (av : Nat) (d' : T), wiA.sem (rV d (wH dat n x1 x3 hs x5 x6 x7 x8 x9) h c v tg t via st (some (.int 0)) en se) =
    .nx (rV d' (wH dat n x1 x3 hs x5 x6 x7 x8 x9) h c v tg t via st (some (.int av)) en se) ∧ Dg d' ∧ Av n av := by
  obtain ⟨k, d1, q1, g1, b1⟩ := e_drawN hd (m := 3) (by omega) (by omega) (a := eInt 3) (r := [some (wH dat n x1 x3 hs x5 x6 x7 x8 x9), some (.int 1), some (.int 1), h, c, v, tg, t, via, st, some (.int 0), en, se]) rfl
  have cc : (bCmp .Eq (eCall F_law_draw (xs [(eVar 0), (eInt 3)])) (eInt 0)).sem (rV d (wH dat n x1 x3 hs x5 x6 x7 x8 x9) h c v tg t via st (some (.int 0)) en se) = .ok ((k : Int) == 0) (rV d1 (wH dat n x1 x3 hs x5 x6 x7 x8 x9) h c v tg t via st (some (.int 0)) en se) true := b_cmp (τ2 := false) (o2 := .v (.int 0)) (y := .int 0) q1 rfl rfl rfl rfl rfl rfl
  cases e : ((k : Int) == 0) with
  | false =>
    rw [e] at cc
    exact ⟨0, d1, (i_f cc).trans rfl, g1, .inl rfl⟩
  | true =>
    rw [e] at cc
    obtain ⟨j, d2, q2, g2, b2⟩ := e_drawW g1 hn hn2 (dat := dat) (x1 := x1) (x3 := x3) (hs := hs) (x5 := x5) (x6 := x6) (x7 := x7) (x8 := x8) (x9 := x9) (r := [some (.int 1), some (.int 1), h, c, v, tg, t, via, st, some (.int 0), en, se])
    refine ⟨2 ^ j, d2, (i_t cc).trans ((b_nx (s_set (e_bin (op := .LShift) (a := eInt 1) (z := .int ((2 ^ j : Nat) : Int)) (τ1 := false) (o1 := .v (.int 1)) (x := .int 1) rfl q2 rfl rfl rfl rfl ?_) rfl)).trans b_nil), g2, .inr ⟨j, b2, rfl⟩⟩
    obtain rfl | rfl | rfl | rfl : j = 0 ∨ j = 1 ∨ j = 2 ∨ j = 3 := by omega
    all_goals rfl
theorem wishF1 {d w : T} {hn2 : n ≤ 4} {h c v tg t via st se : Option T} : ∀ (es : List Nat) (av : Nat) (en : Option T), (∀ e ∈ es, e < n) → Av n av → ∃ (av' : Nat) (en' : Option T),
    forF (gN 12).sem (blk [sSet (gN 11) (eBin .BitAnd (eVar 11) (eBin .Sub (eNeg (eInt 1)) (eBin .LShift (eInt 1) (eVar 12))))]).sem (es.map nI) (rV d w h c v tg t via st (some (.int av)) en se) = .nx (rV d w h c v tg t via st (some (.int av')) en' se) ∧ Av n av'
  | [], av, en, _, ha => ⟨av, en, rfl, ha⟩
  | e :: es, av, en, he, ha => by
    obtain ⟨av1, e1, h1⟩ := av_step hn2 ha (he e List.mem_cons_self)
    obtain ⟨av2, en2, e2, h2⟩ := wishF1 (d := d) (w := w) (hn2 := hn2) (h := h) (c := c) (v := v) (tg := tg) (t := t) (via := via) (st := st) (se := se) es av1 (some (.int e)) (fun x hx => he x (List.mem_cons_of_mem _ hx)) h1
    refine ⟨av2, en2, (f_nx (ρ1 := rV d w h c v tg t via st (some (.int av)) (some (.int e)) se) rfl (b_nx (s_set (ρ2 := rV d w h c v tg t via st (some (.int av1)) (some (.int e)) se) (e_bin (op := .BitAnd) (a := eVar 11) (ρ1 := rV d w h c v tg t via st (some (.int av)) (some (.int e)) se) (ρ2 := rV d w h c v tg t via st (some (.int av)) (some (.int e)) se) (o1 := .v (.int av)) (o2 := .v (.int (-1 - 1 * 2 ^ e))) (z := .int av1) (x := .int av) (y := .int (-1 - 1 * 2 ^ e)) (τ1 := false) (τ2 := false) rfl ?_ rfl rfl rfl rfl ?_) rfl))).trans e2, h2⟩
    · have : e < 4 := by have := he e List.mem_cons_self; omega
      obtain rfl | rfl | rfl | rfl : e = 0 ∨ e = 1 ∨ e = 2 ∨ e = 3 := by omega
      all_goals kernel_rfl
    · rw [← e1]; rfl
end
end K81
set_option Elab.async false
set_option linter.all false
set_option maxRecDepth 100000
set_option maxHeartbeats 2000000
/-! k81: a wish, whole. -/
namespace K81
open PySem L2 Pv
structure Wi where
  h : Nat
  t : Option Nat
  c : Nat
  v : Nat
  via : List Nat
  av : Nat
  a : Nat
  b : Nat
  sp : Nat
def tgT : Option Nat → T
  | none => .non
  | some t => .int t
abbrev wiT (w : Wi) : T := .tup [.int w.h, tgT w.t, .int w.c, .int w.v, .tup (w.via.map nI), .int w.av, .int w.a, .int w.b, .int w.sp]
structure WiOk (n m : Nat) (w : Wi) : Prop where
  h : w.h < m
  t : ∀ t, w.t = some t → t < m
  c : w.c < 4
  v : w.v < 4
  vl : w.via.length ≤ 1
  vn : ∀ x ∈ w.via, x < n
  av : Av n w.av
  a : w.a < 4
  b : w.b < 4
  sp : w.sp < 2
def home (hs : List (Nat × Str)) (h : Nat) : Nat := (hs.getD h (0, "")).1
theorem via_im (via : List Nat) : T.imms (via.map nI) = true := imms_of fun t ht => by obtain ⟨x, _, rfl⟩ := List.mem_map.mp ht; rfl
def wiL : Ex := eLst (xs [(eIx (eIx (eIx (eVar 1) (eInt 4)) (eVar 4)) (eInt 0)), (eIx (eIx (eIx (eVar 1) (eInt 4)) (eVar 8)) (eInt 0))])
section
variable {dat n : Nat} {x1 x3 : T} {hs : List (Nat × Str)} {x5 x6 x7 x8 x9 : T}
theorem home_lt (k : HsOk n hs) {h : Nat} (hh : h < hs.length) : home hs h < n := by
  unfold home
  rw [List.getD_eq_getElem?_getD, List.getElem?_eq_getElem hh]
  exact k.home _ (List.getElem_mem hh)
theorem homes (d : T) (k : HsOk n hs) {h t : Nat} (hh : h < hs.length) (ht : t < hs.length) (c v tg via st av en se : Option T) : wiL.sem (rV d (wH dat n x1 x3 hs x5 x6 x7 x8 x9) (some (.int h)) c v tg (some (.int t)) via st av en se) =
    .ok (.v (.lst [.int (home hs h), .int (home hs t)])) (rV d (wH dat n x1 x3 hs x5 x6 x7 x8 x9) (some (.int h)) c v tg (some (.int t)) via st av en se) false := by
  rcases hs_cases k with ⟨a, b, rfl⟩ | ⟨a, b, e, rfl⟩
  · have hh' : h < 2 := hh
    have ht' : t < 2 := ht
    obtain rfl | rfl : h = 0 ∨ h = 1 := by omega
    all_goals obtain rfl | rfl : t = 0 ∨ t = 1 := by omega
    all_goals kernel_rfl
  · have hh' : h < 3 := hh
    have ht' : t < 3 := ht
    obtain rfl | rfl | rfl : h = 0 ∨ h = 1 ∨ h = 2 := by omega
    all_goals obtain rfl | rfl | rfl : t = 0 ∨ t = 1 ∨ t = 2 := by omega
    all_goals kernel_rfl
theorem wishF (d : T) (k : HsOk n hs) (hn2 : n ≤ 4) {h t : Nat} (hh : h < hs.length) (ht : t < hs.length) {via : List Nat} (vl : via.length ≤ 1) (vn : ∀ x ∈ via, x < n) {av : Nat} (ha : Av n av) (c v tg st en se : Option T) : ∃ (av' : Nat) (en' : Option T),
    wiF.sem (rV d (wH dat n x1 x3 hs x5 x6 x7 x8 x9) (some (.int h)) c v tg (some (.int t)) (some (.tup (via.map nI))) st (some (.int av)) en se) =
    .nx (rV d (wH dat n x1 x3 hs x5 x6 x7 x8 x9) (some (.int h)) c v tg (some (.int t)) (some (.tup (via.map nI))) st (some (.int av')) en' se) ∧ Av n av' := by
  have im := via_im via
  obtain ⟨av', en', e, h'⟩ := wishF1 (d := d) (w := wH dat n x1 x3 hs x5 x6 x7 x8 x9) (hn2 := hn2) (h := some (.int h)) (c := c) (v := v) (tg := tg) (t := some (.int t)) (via := some (.tup (via.map nI))) (st := st) (se := se) (home hs h :: home hs t :: via) av en
    (fun x hx => by
      rcases List.mem_cons.mp hx with rfl | hx
      · exact home_lt k hh
      · rcases List.mem_cons.mp hx with rfl | hx
        · exact home_lt k ht
        · exact vn x hx) ha
  refine ⟨av', en', (s_for (τ := false) (i_seqL (τ := false) (o := .v (.lst ([.int (home hs h), .int (home hs t)] ++ via.map nI))) (e_bin (τ1 := false) (τ2 := false) (a := wiL) (homes d k hh ht _ _ _ _ _ _ _ _) (b := eList (eVar 9)) (o2 := .v (.lst (via.map nI))) (x := .lst [.int (home hs h), .int (home hs t)]) (y := .lst (via.map nI)) ?_ rfl rfl rfl rfl ?_) rfl ?_)).trans e, h'⟩
  · show opSem [(eVar 9).sem] (f1 listT) _ = _
    unfold opSem
    rw [ev1 (v_imm (t := .tup (via.map nI)) rfl im) rfl]
    simp only [f1, getO, listT, im, if_true]
  · exact if_pos ⟨rfl, im, by rw [List.length_map, sizeLine_eq]; simp only [List.length_cons, List.length_nil]; omega⟩
  · exact imms_of fun t ht => by
      rcases List.mem_append.mp ht with ht | ht
      · simp only [List.mem_cons, List.not_mem_nil, or_false] at ht
        rcases ht with rfl | rfl <;> rfl
      · exact imms_mem im t ht
theorem wishT (d : T) (k : HsOk n hs) {h : Nat} (hh : h < hs.length) (c v : Option T) : (sSet (gN 7) (eCall F_law_targets (xs [(eVar 1), (eVar 4)]))).sem (rV d (wH dat n x1 x3 hs x5 x6 x7 x8 x9) (some (.int h)) c v none none none none none none none) =
    .nx (rV d (wH dat n x1 x3 hs x5 x6 x7 x8 x9) (some (.int h)) c v (some (.lst ((tgts hs h).map nI))) none none none none none none) :=
  s_set (e_callF (F := F_law_targets) (φ := φ_law_targets) rfl (ρ1 := rV d (wH dat n x1 x3 hs x5 x6 x7 x8 x9) (some (.int h)) c v none none none none none none none) (τ := false) (os := [.p 1 [], .v (.int h)]) (ts := [wH dat n x1 x3 hs x5 x6 x7 x8 x9, .int h])
    (evp (τ1 := false) (τ2 := false) (v_lst rfl) (evc (τ1 := false) (τ2 := false) (v_imm rfl rfl) evn) rfl) rfl rfl rfl (targets_ok k hh) rfl) rfl
def wiEnd : Ex := eTup (xs [(eVar 4), (eVar 8), (eVar 5), (eVar 6), (eVar 9), (eVar 11), (eIx (eVar 13) (eInt 0)), (eIx (eVar 13) (eInt 1)), (eCall F_law_draw (xs [(eVar 0), (eBin .Add (eVar 3) (eInt 1))]))])
theorem wish_end {d : T} (hd : Dg d) {w : T} {h t c v a b av : Nat} {via : List Nat} (tg st en : Option T) : ∃ (sp : Nat) (d' : T), wiEnd.sem (rV d w (some (.int h)) (some (.int c)) (some (.int v)) tg (some (.int t)) (some (.tup (via.map nI))) st (some (.int av)) en (some (.tup [.int a, .int b]))) =
    .ok (.v (wiT ⟨h, some t, c, v, via, av, a, b, sp⟩)) (rV d' w (some (.int h)) (some (.int c)) (some (.int v)) tg (some (.int t)) (some (.tup (via.map nI))) st (some (.int av)) en (some (.tup [.int a, .int b]))) true ∧ Dg d' ∧ sp < 2 := by
  obtain ⟨sp, d1, q1, g1, b1⟩ := e_drawN hd (m := 2) (by omega) (by omega) (a := eBin .Add (eVar 3) (eInt 1)) (r := [some w, some (.int 1), some (.int 1), some (.int h), some (.int c), some (.int v), tg, some (.int t), some (.tup (via.map nI)), st, some (.int av), en, some (.tup [.int a, .int b])]) rfl
  let ρ : Rho := rV d w (some (.int h)) (some (.int c)) (some (.int v)) tg (some (.int t)) (some (.tup (via.map nI))) st (some (.int av)) en (some (.tup [.int a, .int b]))
  exact ⟨sp, d1, e_tup (ts := [.int h, .int t, .int c, .int v, .tup (via.map nI), .int av, .int a, .int b, .int sp]) (τ := true) (evc (ρ1 := ρ) (τ1 := false) (τ2 := true) (v_imm rfl rfl) (evc (ρ1 := ρ) (τ1 := false) (τ2 := true) (v_imm rfl rfl) (evc (ρ1 := ρ) (τ1 := false) (τ2 := true) (v_imm rfl rfl) (evc (ρ1 := ρ) (τ1 := false) (τ2 := true) (v_imm rfl rfl)
    (evc (ρ1 := ρ) (τ1 := false) (τ2 := true) (v_imm rfl (via_im via)) (evc (ρ1 := ρ) (τ1 := false) (τ2 := true) (v_imm rfl rfl) (evc (ρ1 := ρ) (t := .int a) (τ1 := false) (τ2 := true) rfl (evc (ρ1 := ρ) (t := .int b) (τ1 := false) (τ2 := true) rfl (evc (τ1 := true) (τ2 := false) q1 evn))))))))) (show 9 ≤ 10000 by decide), g1, b1⟩
theorem wish_ok {d : T} (hd : Dg d) (hb : dat = 1 ∨ dat = 2) (hn : 2 ≤ n) (hn2 : n ≤ 4) (k : HsOk n hs) : ∃ (w : Wi) (d' : T), φ_law_wish [d, wH dat n x1 x3 hs x5 x6 x7 x8 x9, .int 1, .int 1] = .ok (wiT w) [some d', some (wH dat n x1 x3 hs x5 x6 x7 x8 x9), some (.int 1), some (.int 1)] ∧ Dg d' ∧ WiOk n hs.length w := by
  obtain ⟨ts0, e0⟩ := dg_shape hd
  have cal : calmArgs b_law_wish.asg 0 [d, wH dat n x1 x3 hs x5 x6 x7 x8 x9, .int 1, .int 1] = true := by rw [e0]; rfl
  have bk : ∀ {d' : T} {h c v tg t via st av en se : Option T}, back [d, wH dat n x1 x3 hs x5 x6 x7 x8 x9, .int 1, .int 1] 0 (rV d' (wH dat n x1 x3 hs x5 x6 x7 x8 x9) h c v tg t via st av en se) = [some d', some (wH dat n x1 x3 hs x5 x6 x7 x8 x9), some (.int 1), some (.int 1)] := by
    intros; rw [e0]; rfl
  obtain ⟨h, c, v, d1, q1, g1, hh, c4, v4⟩ := wish1 hd hb k (dat := dat) (x1 := x1) (x3 := x3) (x5 := x5) (x6 := x6) (x7 := x7) (x8 := x8) (x9 := x9)
  have s4 := wishT d1 k hh (some (.int c)) (some (.int v)) (dat := dat) (x1 := x1) (x3 := x3) (x5 := x5) (x6 := x6) (x7 := x7) (x8 := x8) (x9 := x9)
  have hit : ∀ {d2 : T}, Dg d2 → (sRet (eTup (xs [(eVar 4), eNon, (eVar 5), (eVar 6), (eTup (xs [])), (eInt 0), (eInt 0), (eInt 0), (eInt 0)]))).sem (rV d2 (wH dat n x1 x3 hs x5 x6 x7 x8 x9) (some (.int h)) (some (.int c)) (some (.int v)) (some (.lst ((tgts hs h).map nI))) none none none none none none) =
      .ret (wiT ⟨h, none, c, v, [], 0, 0, 0, 0⟩) (rV d2 (wH dat n x1 x3 hs x5 x6 x7 x8 x9) (some (.int h)) (some (.int c)) (some (.int v)) (some (.lst ((tgts hs h).map nI))) none none none none none none) := fun _ => by kernel_rfl
  have okN : WiOk n hs.length ⟨h, none, c, v, [], 0, 0, 0, 0⟩ := ⟨hh, fun t z => (by cases z), c4, v4, Nat.zero_le _, fun x hx => (by cases hx), .inl rfl, (show 0 < 4 by decide), (show 0 < 4 by decide), (show 0 < 2 by decide)⟩
  have ln : (eLen (eVar 7)).sem (rV d1 (wH dat n x1 x3 hs x5 x6 x7 x8 x9) (some (.int h)) (some (.int c)) (some (.int v)) (some (.lst ((tgts hs h).map nI))) none none none none none none) = .ok (.v (.int ((tgts hs h).map nI).length)) _ false := len_var rfl
  have c1 : (bCmp .Eq (eLen (eVar 7)) (eInt 0)).sem (rV d1 (wH dat n x1 x3 hs x5 x6 x7 x8 x9) (some (.int h)) (some (.int c)) (some (.int v)) (some (.lst ((tgts hs h).map nI))) none none none none none none) = .ok ((((tgts hs h).map nI).length : Int) == 0) _ false := b_cmp (τ2 := false) (o2 := .v (.int 0)) (y := .int 0) ln rfl rfl rfl rfl rfl rfl
  cases e1 : ((((tgts hs h).map nI).length : Int) == 0) with
  | true =>
    rw [e1] at c1
    exact ⟨_, d1, fn_ret (b := b_law_wish) rfl ((blk_app (l1 := [wi1, wi2, wi3]) q1).trans ((b_nx s4).trans (b_ret ((i_t (or_t c1)).trans (b_ret (hit g1)))))) bk cal, g1, okN⟩
  | false =>
    rw [e1] at c1
    obtain ⟨b, d2, q2, g2⟩ := e_rare g1 (m := 9) (by decide) (by decide) (a := eInt 9) (r := [some (wH dat n x1 x3 hs x5 x6 x7 x8 x9), some (.int 1), some (.int 1), some (.int h), some (.int c), some (.int v), some (.lst ((tgts hs h).map nI)), none, none, none, none, none, none]) rfl
    have c2 := or_f c1 (or_1.trans (b_tru (k := b) q2 rfl rfl))
    cases b with
    | true => exact ⟨_, d2, fn_ret (b := b_law_wish) rfl ((blk_app (l1 := [wi1, wi2, wi3]) q1).trans ((b_nx s4).trans (b_ret ((i_t c2).trans (b_ret (hit g2)))))) bk cal, g2, okN⟩
    | false =>
      have l0 : 0 < ((tgts hs h).map nI).length := by
        have : ¬ (((tgts hs h).map nI).length : Int) = 0 := by simpa using e1
        omega
      obtain ⟨x, d3, hx, q3, g3⟩ := e_pickV g2 (via_im (tgts hs h)) l0 (by
        have : (tgts hs h).length ≤ hs.length := by
          have := List.length_filter_le (fun k => decide (k ≠ h) && tgtB ((hs.getD h (0, "")).2) ((hs.getD k (0, "")).2)) (List.range hs.length)
          rw [List.length_range] at this
          exact this
        rw [List.length_map]
        rcases k.len with z | z <;> omega) (i := 6) (r := [some (wH dat n x1 x3 hs x5 x6 x7 x8 x9), some (.int 1), some (.int 1), some (.int h), some (.int c), some (.int v), some (.lst ((tgts hs h).map nI)), none, none, none, none, none, none]) rfl
      obtain ⟨t, ht, rfl⟩ := List.mem_map.mp hx
      have ht' := tgts_lt ht
      have s5 : (sSet (gN 8) (eCall F_law_pick (xs [(eVar 0), (eVar 7)]))).sem (rV d2 (wH dat n x1 x3 hs x5 x6 x7 x8 x9) (some (.int h)) (some (.int c)) (some (.int v)) (some (.lst ((tgts hs h).map nI))) none none none none none none) = .nx (rV d3 (wH dat n x1 x3 hs x5 x6 x7 x8 x9) (some (.int h)) (some (.int c)) (some (.int v)) (some (.lst ((tgts hs h).map nI))) (some (.int t)) none none none none none) := s_set q3 rfl
      obtain ⟨via, d4, q4, g4, vl, vn⟩ := wishV g3 hn hn2 (dat := dat) (n := n) (x1 := x1) (x3 := x3) (hs := hs) (x5 := x5) (x6 := x6) (x7 := x7) (x8 := x8) (x9 := x9) (h := some (.int h)) (c := some (.int c)) (v := some (.int v)) (tg := some (.lst ((tgts hs h).map nI))) (t := some (.int t)) (av := none) (en := none) (se := none)
      have s6 : (sSet (gN 11) (eInt 0)).sem (rV d4 (wH dat n x1 x3 hs x5 x6 x7 x8 x9) (some (.int h)) (some (.int c)) (some (.int v)) (some (.lst ((tgts hs h).map nI))) (some (.int t)) (some (.tup (via.map nI))) none none none none) = .nx (rV d4 (wH dat n x1 x3 hs x5 x6 x7 x8 x9) (some (.int h)) (some (.int c)) (some (.int v)) (some (.lst ((tgts hs h).map nI))) (some (.int t)) (some (.tup (via.map nI))) none (some (.int 0)) none none) := s_set (τ := false) (t := .int 0) rfl rfl
      obtain ⟨av, d5, q5, g5, ha⟩ := wishA g4 hn hn2 (dat := dat) (n := n) (x1 := x1) (x3 := x3) (hs := hs) (x5 := x5) (x6 := x6) (x7 := x7) (x8 := x8) (x9 := x9) (h := some (.int h)) (c := some (.int c)) (v := some (.int v)) (tg := some (.lst ((tgts hs h).map nI))) (t := some (.int t)) (via := some (.tup (via.map nI))) (st := none) (en := none) (se := none)
      obtain ⟨av2, en2, q6, ha2⟩ := wishF d5 k hn2 hh ht' vl vn ha (dat := dat) (x1 := x1) (x3 := x3) (x5 := x5) (x6 := x6) (x7 := x7) (x8 := x8) (x9 := x9) (some (.int c)) (some (.int v)) (some (.lst ((tgts hs h).map nI))) none none none
      have s7 : (sSet (gN 13) (eTup (xs [(eInt 0), (eInt 0)]))).sem (rV d5 (wH dat n x1 x3 hs x5 x6 x7 x8 x9) (some (.int h)) (some (.int c)) (some (.int v)) (some (.lst ((tgts hs h).map nI))) (some (.int t)) (some (.tup (via.map nI))) none (some (.int av2)) en2 none) = .nx (rV d5 (wH dat n x1 x3 hs x5 x6 x7 x8 x9) (some (.int h)) (some (.int c)) (some (.int v)) (some (.lst ((tgts hs h).map nI))) (some (.int t)) (some (.tup (via.map nI))) none (some (.int av2)) en2 (some (.tup [.int 0, .int 0]))) := s_set (τ := false) (t := .tup [.int 0, .int 0]) rfl rfl
      obtain ⟨a, b, d6, q7, g6, a4, b4⟩ := wishS g5 hb (dat := dat) (n := n) (x1 := x1) (x3 := x3) (hs := hs) (x5 := x5) (x6 := x6) (x7 := x7) (x8 := x8) (x9 := x9) (h := some (.int h)) (c := some (.int c)) (v := some (.int v)) (tg := some (.lst ((tgts hs h).map nI))) (t := some (.int t)) (via := some (.tup (via.map nI))) (st := none) (av := some (.int av2)) (en := en2)
      obtain ⟨sp, d7, q8, g7, b7⟩ := wish_end g6 (w := wH dat n x1 x3 hs x5 x6 x7 x8 x9) (h := h) (t := t) (c := c) (v := v) (a := a) (b := b) (av := av2) (via := via) (some (.lst ((tgts hs h).map nI))) none en2
      exact ⟨⟨h, some t, c, v, via, av2, a, b, sp⟩, d7, fn_ret (b := b_law_wish) rfl ((blk_app (l1 := [wi1, wi2, wi3]) q1).trans ((b_nx s4).trans ((b_nx ((i_f c2).trans rfl)).trans ((b_nx s5).trans ((b_nx q4).trans ((b_nx s6).trans ((b_nx q5).trans ((b_nx q6).trans ((b_nx s7).trans ((b_nx q7).trans (b_ret (s_ret q8)))))))))))) bk cal, g7,
        ⟨hh, fun t' z => (by cases z; exact ht'), c4, v4, vl, vn, ha2, a4, b4, b7⟩⟩
end
end K81
set_option Elab.async false
set_option linter.all false
set_option maxRecDepth 100000
set_option maxHeartbeats 2000000
/-! k81: the first policy. -/
namespace Pv
open PySem L2
/-- a loop that may break -/
theorem for_invB {set : T → Rho → Option Rho} {b : Rho → RS} (I : List T → Rho → Prop) (J : Rho → Prop) (step : ∀ t ts ρ, I (t :: ts) ρ → ∃ ρ1 ρ2, set t ρ = some ρ1 ∧ ((b ρ1 = .nx ρ2 ∧ I ts ρ2) ∨ (b ρ1 = .bk ρ2 ∧ J ρ2))) (fin : ∀ ρ, I [] ρ → J ρ) : ∀ (ts : List T) (ρ : Rho), I ts ρ → ∃ ρ', forF set b ts ρ = .nx ρ' ∧ J ρ'
  | [], ρ, h => ⟨ρ, rfl, fin ρ h⟩
  | t :: ts, ρ, h => by
    obtain ⟨ρ1, ρ2, h1, ⟨h2, h3⟩ | ⟨h2, h3⟩⟩ := step t ts ρ h
    · obtain ⟨ρ', e, i⟩ := for_invB I J step fin ts ρ2 h3
      exact ⟨ρ', (f_nx h1 h2).trans e, i⟩
    · exact ⟨ρ2, by simp only [forF, h1, h2], h3⟩
theorem b_bk {a : Sx} {l : List Sx} {ρ ρ1 : Rho} (h : a.sem ρ = .bk ρ1) : (blk (a :: l)).sem ρ = .bk ρ1 := by
  show seqS a.sem (blk l).sem ρ = _
  unfold seqS; rw [h]
theorem s_setixV {i0 j0 : Nat} {j : Int} {a : Ex} {ρ ρ1 : Rho} {t : T} {ts : List T} {k : Nat} {τ : Bool} (h : a.sem ρ = .ok (.v t) ρ1 τ) (hd : ρ1[i0]? = some (some (.lst ts))) (hj : ρ1[j0]? = some (some (.int j))) (hk : ixN ts.length j = some k) :
    (sSetIx (eVar i0) (eVar j0) a).sem ρ = .nx (ρ1.set i0 (some (.lst (ts.set k t)))) := by
  have ev : (eVar i0).sem ρ1 = .ok (.p i0 []) ρ1 false := v_lst hd
  have th : O.there ρ1 (.p i0 []) = true := by simp only [O.there, hd]
  have e : evL [a.sem, (eVar i0).sem, (eVar j0).sem] ρ = .ok [.v t, .p i0 [], .v (.int j)] ρ1 (τ || (false || false)) := by
    have e2 : evL [(eVar i0).sem, (eVar j0).sem] ρ1 = .ok [.p i0 [], .v (.int j)] ρ1 (false || false) := ev2 ev (v_imm hj rfl) (by simp [th, O.deep]) rfl
    unfold evL
    rw [h]
    simp only
    rw [e2]
    simp only
    rw [if_neg (by simp [O.deep, O.there])]
  show effS (effSem 3 [a.sem, (eVar i0).sem, (eVar j0).sem] setF) ρ = _
  unfold effS effSem
  rw [e]
  simp only [getOs, getO, hd, T.at]
  rw [if_pos ⟨rfl, rfl⟩]
  simp only [setF, hk, effFin, wb, hd, T.put]
/-- an item of a list in a slot -/
theorem ix_lv {i j k : Nat} {ρ : Rho} {ts : List T} {u : T} (h : ρ[i]? = some (some (.lst ts))) (hj : ρ[j]? = some (some (.int (k : Int)))) (hk : ts[k]? = some u) (im : u.imm = true) : (eIx (eVar i) (eVar j)).sem ρ = .ok (.v u) ρ false := by
  obtain ⟨hlt, _⟩ := List.getElem?_eq_some_iff.mp hk
  have th : O.there ρ (.p i []) = true := by simp only [O.there, h]
  refine e_ix (τ1 := false) (τ2 := false) (v_lst h) (v_imm hj rfl) (by simp [th, O.deep]) rfl (x := .lst ts) (y := .int k) (by simp only [getO, h, T.at]) rfl ?_
  simp only [ixO, ixN_nat hlt, hk, itemO, im, if_true]
/-- an item of a list at a place -/
theorem ix_pv {a : Ex} {i j k : Nat} {q : List Nat} {ρ : Rho} {ts : List T} {u : T} (h : a.sem ρ = .ok (.p i q) ρ false) (th : O.there ρ (.p i q) = true) (g : getO ρ (.p i q) = some (.lst ts)) (hj : ρ[j]? = some (some (.int (k : Int)))) (hk : ts[k]? = some u) (im : u.imm = true) : (eIx a (eVar j)).sem ρ = .ok (.v u) ρ false := by
  obtain ⟨hlt, _⟩ := List.getElem?_eq_some_iff.mp hk
  refine e_ix (τ1 := false) (τ2 := false) h (v_imm hj rfl) (by simp [th]) rfl (x := .lst ts) (y := .int k) g rfl ?_
  simp only [ixO, ixN_nat hlt, hk, itemO, im, if_true]
def CalmO (x : Option T) : Prop := ∀ t, x = some t → t.imm = true
theorem calmO_none : CalmO none := fun t h => by cases h
theorem calmO_some {t : T} (h : t.imm = true) : CalmO (some t) := fun u e => by cases e; exact h
end Pv
namespace K81
open PySem L2 Pv
theorem wi_im (w : Wi) : (wiT w).imm = true := by
  obtain ⟨h, t, c, v, via, av, a, b, sp⟩ := w
  have := via_im via
  cases t <;> simp [wiT, tgT, T.imm, T.imms, this]
theorem wis_im (ws : List Wi) : T.imms (ws.map wiT) = true := imms_of fun t ht => by obtain ⟨w, _, rfl⟩ := List.mem_map.mp ht; exact wi_im w
abbrev rP (w rows : T) (ho : Option T) (lots : Option T) (x4 x5 x6 : Option T) : Rho := [some w, some rows, ho, lots, x4, x5, x6]
def fpI : Sx := sIf (bAnd [(bCmp .Eq (eIx (eVar 4) (eInt 0)) (eVar 2)), (bCmp .Eq (eBin .BitAnd (eVar 5) (eIx (eVar 4) (eInt 2))) (eIx (eVar 4) (eInt 3)))]) (blk [sSetIx (eVar 3) (eVar 6) (eBin .BitOr (eIx (eVar 3) (eVar 6)) (eBin .LShift (eInt 1) (eVar 5))),
  sBreak]) (blk [])
def fp3 : Bl := blk [sSet (gN 4) (eIx (eIx (eVar 0) (eInt 5)) (eVar 6)), fpI]
section
variable {dat n : Nat} {x1 x3 : T} {hs : List (Nat × Str)} {ws : List Wi} {x6 x7 x8 x9 : T}
abbrev wW (dat n : Nat) (x1 x3 : T) (hs : List (Nat × Str)) (ws : List Wi) (x6 x7 x8 x9 : T) : T := wH dat n x1 x3 hs (.lst (ws.map wiT)) x6 x7 x8 x9
theorem fp3_ok (rows : T) {h data : Nat} (hd : data < 4) {L : List Int} (hl : L.length = ws.length) {k : Nat} (hk : k < ws.length) (x4 : Option T) :
    ∃ (ρ' : Rho) (L' : List Int) (x4' : Option T), ρ' = rP (wW dat n x1 x3 hs ws x6 x7 x8 x9) rows (some (.int h)) (some (.lst (L'.map T.int))) x4' (some (.int data)) (some (.int k)) ∧ L'.length = ws.length ∧ CalmO x4' ∧
    (fp3.sem (rP (wW dat n x1 x3 hs ws x6 x7 x8 x9) rows (some (.int h)) (some (.lst (L.map T.int))) x4 (some (.int data)) (some (.int k))) = .nx ρ' ∨ fp3.sem (rP (wW dat n x1 x3 hs ws x6 x7 x8 x9) rows (some (.int h)) (some (.lst (L.map T.int))) x4 (some (.int data)) (some (.int k))) = .bk ρ') := by
  have gw : (ws.map wiT)[k]? = some (wiT ws[k]) := by rw [List.getElem?_map, List.getElem?_eq_getElem hk]; rfl
  have im := wi_im ws[k]
  have rd : (eIx (eIx (eVar 0) (eInt 5)) (eVar 6)).sem (rP (wW dat n x1 x3 hs ws x6 x7 x8 x9) rows (some (.int h)) (some (.lst (L.map T.int))) x4 (some (.int data)) (some (.int k))) = .ok (.v (wiT ws[k])) _ false :=
    ix_pv (i := 0) (q := [5]) (ts := ws.map wiT) (by kernel_rfl) rfl rfl rfl gw im
  have s1 : (sSet (gN 4) (eIx (eIx (eVar 0) (eInt 5)) (eVar 6))).sem _ = .nx (rP (wW dat n x1 x3 hs ws x6 x7 x8 x9) rows (some (.int h)) (some (.lst (L.map T.int))) (some (wiT ws[k])) (some (.int data)) (some (.int k))) := s_set rd rfl
  let ρ1 : Rho := rP (wW dat n x1 x3 hs ws x6 x7 x8 x9) rows (some (.int h)) (some (.lst (L.map T.int))) (some (wiT ws[k])) (some (.int data)) (some (.int k))
  have c1 : (bCmp .Eq (eIx (eVar 4) (eInt 0)) (eVar 2)).sem ρ1 = .ok ((ws[k].h : Int) == h) ρ1 false :=
    b_cmp (τ1 := false) (τ2 := false) (o1 := .v (.int ws[k].h)) (o2 := .v (.int h)) (x := .int ws[k].h) (y := .int h) (ix_var (k := 0) rfl im rfl) (v_imm rfl rfl) rfl rfl rfl rfl (eq_ints _ _)
  have c2 : (bCmp .Eq (eBin .BitAnd (eVar 5) (eIx (eVar 4) (eInt 2))) (eIx (eVar 4) (eInt 3))).sem ρ1 = .ok (Builtin.bitAnd data ws[k].c == (ws[k].v : Int)) ρ1 false :=
    b_cmp (τ1 := false) (τ2 := false) (o1 := .v (.int (Builtin.bitAnd data ws[k].c))) (o2 := .v (.int ws[k].v)) (x := .int (Builtin.bitAnd data ws[k].c)) (y := .int ws[k].v)
      (e_bin (τ1 := false) (τ2 := false) (o1 := .v (.int data)) (o2 := .v (.int ws[k].c)) (x := .int data) (y := .int ws[k].c) (v_imm rfl rfl) (ix_var (k := 2) rfl im rfl) rfl rfl rfl rfl rfl) (ix_var (k := 3) rfl im rfl) rfl rfl rfl rfl (eq_ints _ _)
  have quit : ∀ {k2 : Bool}, (bAnd [(bCmp .Eq (eIx (eVar 4) (eInt 0)) (eVar 2)), (bCmp .Eq (eBin .BitAnd (eVar 5) (eIx (eVar 4) (eInt 2))) (eIx (eVar 4) (eInt 3)))]).sem ρ1 = .ok k2 ρ1 false →
      ∃ (ρ' : Rho) (L' : List Int) (x4' : Option T), ρ' = rP (wW dat n x1 x3 hs ws x6 x7 x8 x9) rows (some (.int h)) (some (.lst (L'.map T.int))) x4' (some (.int data)) (some (.int k)) ∧ L'.length = ws.length ∧ CalmO x4' ∧
        (fp3.sem (rP (wW dat n x1 x3 hs ws x6 x7 x8 x9) rows (some (.int h)) (some (.lst (L.map T.int))) x4 (some (.int data)) (some (.int k))) = .nx ρ' ∨ fp3.sem (rP (wW dat n x1 x3 hs ws x6 x7 x8 x9) rows (some (.int h)) (some (.lst (L.map T.int))) x4 (some (.int data)) (some (.int k))) = .bk ρ') := fun {k2} c => by
    cases k2 with
    | false => exact ⟨ρ1, L, some (wiT ws[k]), rfl, hl, calmO_some im, .inl ((b_nx s1).trans ((b_nx ((i_f c).trans rfl)).trans b_nil))⟩
    | true =>
      have hk' : k < L.length := by omega
      have gl : (L.map T.int)[k]? = some (.int L[k]) := by rw [List.getElem?_map, List.getElem?_eq_getElem hk']; rfl
      obtain ⟨z, hz⟩ : ∃ z : Int, (eBin .LShift (eInt 1) (eVar 5)).sem ρ1 = .ok (.v (.int z)) ρ1 false := by
        obtain rfl | rfl | rfl | rfl : data = 0 ∨ data = 1 ∨ data = 2 ∨ data = 3 := by omega
        · exact ⟨1, rfl⟩
        · exact ⟨2, rfl⟩
        · exact ⟨4, rfl⟩
        · exact ⟨8, rfl⟩
      have vl : (eBin .BitOr (eIx (eVar 3) (eVar 6)) (eBin .LShift (eInt 1) (eVar 5))).sem ρ1 = .ok (.v (.int (Builtin.bitOr L[k] z))) ρ1 false :=
        e_bin (τ1 := false) (τ2 := false) (o1 := .v (.int L[k])) (o2 := .v (.int z)) (x := .int L[k]) (y := .int z) (ix_lv (ts := L.map T.int) rfl rfl gl rfl) hz rfl rfl rfl rfl rfl
      have st := s_setixV (i0 := 3) (j0 := 6) (k := k) (ts := L.map T.int) vl rfl rfl (ixN_nat (by rw [List.length_map]; exact hk'))
      refine ⟨_, L.set k (Builtin.bitOr L[k] z), some (wiT ws[k]), rfl, by rw [List.length_set]; exact hl, calmO_some im, .inr ((b_nx s1).trans (b_bk ((i_t c).trans ((b_nx st).trans ?_))))⟩
      rw [← List.map_set]
      rfl
  cases e1 : ((ws[k].h : Int) == h) with
  | false => rw [e1] at c1; exact quit (and_f c1)
  | true => rw [e1] at c1; exact quit (and_t c1 (and_1.trans c2))
end
end K81
set_option Elab.async false
set_option linter.all false
set_option maxRecDepth 100000
set_option maxHeartbeats 2000000
/-! k81: the first policy, the loops. -/
namespace K81
open PySem L2 Pv
theorem calm_at1 {i : Nat} {x : Option T} {ρ : Rho} (h : ρ[i]? = some x) (c : CalmO x) : calmAt ρ [i] = true := by
  unfold calmAt
  simp only [List.all_cons, List.all_nil, Bool.and_true, h]
  cases x with
  | none => rfl
  | some t => exact c t rfl
def fpK : Bl := blk [sFor (gN 6) (iRange1 (eLen (eIx (eVar 0) (eInt 5)))) fp3]
def fpC : Lc := ⟨[6], (gN 6), (iRange1 (eLen (eVar 3))), (some (bCmp .Gt (eIx (eVar 3) (eVar 6)) (eInt 0))), (eTup (xs [(eVar 6), (eIx (eVar 3) (eVar 6))]))⟩
def fpH : Bl := blk [sSetLcC 3 ⟨[4], (gN 4), (iSeq (eIx (eVar 0) (eInt 5))), none, (eInt 0)⟩, sFor (gN 5) (iRange1 (eBin .LShift (eInt 1) (eIx (eVar 0) (eInt 0)))) fpK, sExpr (eAppend (eVar 1) (eTuple (eLc fpC)))]
section
variable {dat n : Nat} {x1 x3 : T} {hs : List (Nat × Str)} {ws : List Wi} {x6 x7 x8 x9 : T}
theorem fp_len (rows : T) (ho lots x4 x5 x6' : Option T) : (eLen (eIx (eVar 0) (eInt 5))).sem (rP (wW dat n x1 x3 hs ws x6 x7 x8 x9) rows ho lots x4 x5 x6') = .ok (.v (.int ws.length)) (rP (wW dat n x1 x3 hs ws x6 x7 x8 x9) rows ho lots x4 x5 x6') false := by
  have : (eLen (eIx (eVar 0) (eInt 5))).sem (rP (wW dat n x1 x3 hs ws x6 x7 x8 x9) rows ho lots x4 x5 x6') = .ok (.v (.int (ws.map wiT).length)) (rP (wW dat n x1 x3 hs ws x6 x7 x8 x9) rows ho lots x4 x5 x6') false := by kernel_rfl
  rw [List.length_map] at this
  exact this
theorem fpK_ok (hw : ws.length ≤ 3) (rows : T) {h data : Nat} (hd : data < 4) {L : List Int} (hl : L.length = ws.length) {x4 x6' : Option T} (c4 : CalmO x4) (c6 : CalmO x6') :
    ∃ (L' : List Int) (x4' x6'' : Option T), fpK.sem (rP (wW dat n x1 x3 hs ws x6 x7 x8 x9) rows (some (.int h)) (some (.lst (L.map T.int))) x4 (some (.int data)) x6') = .nx (rP (wW dat n x1 x3 hs ws x6 x7 x8 x9) rows (some (.int h)) (some (.lst (L'.map T.int))) x4' (some (.int data)) x6'') ∧ L'.length = ws.length ∧ CalmO x4' ∧ CalmO x6'' := by
  have rg := rg1 (a := eLen (eIx (eVar 0) (eInt 5))) (fp_len (dat := dat) (n := n) (x1 := x1) (x3 := x3) (hs := hs) (ws := ws) (x6 := x6) (x7 := x7) (x8 := x8) (x9 := x9) rows (some (.int h)) (some (.lst (L.map T.int))) x4 (some (.int data)) x6') (small62_of ⟨by omega, by omega⟩)
  obtain ⟨ρ', e, L', x4', x6'', rfl, g1, g2, g3⟩ := for_invB (set := (gN 6).sem) (b := fp3.sem)
    (fun items ρ => ∃ (L' : List Int) (x4' x6'' : Option T), ρ = rP (wW dat n x1 x3 hs ws x6 x7 x8 x9) rows (some (.int h)) (some (.lst (L'.map T.int))) x4' (some (.int data)) x6'' ∧ L'.length = ws.length ∧ CalmO x4' ∧ CalmO x6'' ∧ ∀ t ∈ items, ∃ k : Nat, t = .int k ∧ k < ws.length)
    (fun ρ => ∃ (L' : List Int) (x4' x6'' : Option T), ρ = rP (wW dat n x1 x3 hs ws x6 x7 x8 x9) rows (some (.int h)) (some (.lst (L'.map T.int))) x4' (some (.int data)) x6'' ∧ L'.length = ws.length ∧ CalmO x4' ∧ CalmO x6'')
    (fun t ts ρ ⟨L, x4, x6', e, g1, g2, g3, g4⟩ => by
      subst e
      obtain ⟨k, rfl, hk⟩ := g4 t List.mem_cons_self
      obtain ⟨ρ', L', x4', e', p1, p2, p3⟩ := fp3_ok (dat := dat) (n := n) (x1 := x1) (x3 := x3) (hs := hs) (ws := ws) (x6 := x6) (x7 := x7) (x8 := x8) (x9 := x9) rows (h := h) hd g1 hk x4
      subst e'
      refine ⟨rP (wW dat n x1 x3 hs ws x6 x7 x8 x9) rows (some (.int h)) (some (.lst (L.map T.int))) x4 (some (.int data)) (some (.int k)), rP (wW dat n x1 x3 hs ws x6 x7 x8 x9) rows (some (.int h)) (some (.lst (L'.map T.int))) x4' (some (.int data)) (some (.int k)), rfl, ?_⟩
      rcases p3 with p3 | p3
      · exact .inl ⟨p3, L', x4', some (.int k), rfl, p1, p2, calmO_some rfl, fun u hu => g4 u (List.mem_cons_of_mem _ hu)⟩
      · exact .inr ⟨p3, L', x4', some (.int k), rfl, p1, p2, calmO_some rfl⟩)
    (fun ρ ⟨L', x4', x6'', e, g1, g2, g3, _⟩ => ⟨L', x4', x6'', e, g1, g2, g3⟩)
    (rangeL 0 ws.length) _ ⟨L, x4, x6', rfl, hl, c4, c6, fun t ht => by
      obtain ⟨k, rfl, hk⟩ := rangeL_mem ht
      exact ⟨k, by rw [Int.zero_add], by omega⟩⟩
  exact ⟨L', x4', x6'', (b_nx ((s_for rg).trans e)).trans b_nil, g1, g2, g3⟩
theorem fpD_ok (hw : ws.length ≤ 3) (hb : dat = 1 ∨ dat = 2) (rows : T) {h : Nat} {L : List Int} (hl : L.length = ws.length) {x4 x5 x6' : Option T} (c4 : CalmO x4) (c6 : CalmO x6') :
    ∃ (L' : List Int) (x4' x5' x6'' : Option T), (sFor (gN 5) (iRange1 (eBin .LShift (eInt 1) (eIx (eVar 0) (eInt 0)))) fpK).sem (rP (wW dat n x1 x3 hs ws x6 x7 x8 x9) rows (some (.int h)) (some (.lst (L.map T.int))) x4 x5 x6') = .nx (rP (wW dat n x1 x3 hs ws x6 x7 x8 x9) rows (some (.int h)) (some (.lst (L'.map T.int))) x4' x5' x6'') ∧ L'.length = ws.length ∧ CalmO x4' ∧ CalmO x6'' := by
  obtain ⟨m, hm, sh⟩ : ∃ m : Nat, m ≤ 4 ∧ (eBin .LShift (eInt 1) (eIx (eVar 0) (eInt 0))).sem (rP (wW dat n x1 x3 hs ws x6 x7 x8 x9) rows (some (.int h)) (some (.lst (L.map T.int))) x4 x5 x6') = .ok (.v (.int m)) (rP (wW dat n x1 x3 hs ws x6 x7 x8 x9) rows (some (.int h)) (some (.lst (L.map T.int))) x4 x5 x6') false := by
    rcases hb with rfl | rfl
    · exact ⟨2, by decide, by kernel_rfl⟩
    · exact ⟨4, by decide, by kernel_rfl⟩
  have rg := rg1 (a := eBin .LShift (eInt 1) (eIx (eVar 0) (eInt 0))) sh (small62_of ⟨by omega, by omega⟩)
  obtain ⟨ρ', e, L', x4', x5', x6'', rfl, g1, g2, g3, _⟩ := for_inv (set := (gN 5).sem) (b := fpK.sem)
    (fun items ρ => ∃ (L' : List Int) (x4' x5' x6'' : Option T), ρ = rP (wW dat n x1 x3 hs ws x6 x7 x8 x9) rows (some (.int h)) (some (.lst (L'.map T.int))) x4' x5' x6'' ∧ L'.length = ws.length ∧ CalmO x4' ∧ CalmO x6'' ∧ ∀ t ∈ items, ∃ k : Nat, t = .int k ∧ k < 4)
    (fun t ts ρ ⟨L, x4, x5, x6', e, g1, g2, g3, g4⟩ => by
      subst e
      obtain ⟨k, rfl, hk⟩ := g4 t List.mem_cons_self
      obtain ⟨L', x4', x6'', p0, p1, p2, p3⟩ := fpK_ok (dat := dat) (n := n) (x1 := x1) (x3 := x3) (hs := hs) (ws := ws) (x6 := x6) (x7 := x7) (x8 := x8) (x9 := x9) hw rows (h := h) hk g1 g2 g3
      exact ⟨rP (wW dat n x1 x3 hs ws x6 x7 x8 x9) rows (some (.int h)) (some (.lst (L.map T.int))) x4 (some (.int k)) x6', _, rfl, p0, L', x4', some (.int k), x6'', rfl, p1, p2, p3, fun u hu => g4 u (List.mem_cons_of_mem _ hu)⟩)
    (rangeL 0 m) _ ⟨L, x4, x5, x6', rfl, hl, c4, c6, fun t ht => by
      obtain ⟨k, rfl, hk⟩ := rangeL_mem ht
      exact ⟨k, by rw [Int.zero_add], by omega⟩⟩
  exact ⟨L', x4', x5', x6'', (s_for rg).trans e, g1, g2, g3⟩
theorem fpC_ok (hw : ws.length ≤ 3) (rows : T) {h : Nat} {L : List Int} (hl : L.length = ws.length) {x4 x5 x6' : Option T} (c6 : CalmO x6') :
    ∃ acc : List T, (eLc fpC).sem (rP (wW dat n x1 x3 hs ws x6 x7 x8 x9) rows (some (.int h)) (some (.lst (L.map T.int))) x4 x5 x6') = .ok (.v (.lst acc)) (rP (wW dat n x1 x3 hs ws x6 x7 x8 x9) rows (some (.int h)) (some (.lst (L.map T.int))) x4 x5 x6') false ∧ T.imms acc = true := by
  have ln : (eLen (eVar 3)).sem (rP (wW dat n x1 x3 hs ws x6 x7 x8 x9) rows (some (.int h)) (some (.lst (L.map T.int))) x4 x5 x6') = .ok (.v (.int (L.map T.int).length)) (rP (wW dat n x1 x3 hs ws x6 x7 x8 x9) rows (some (.int h)) (some (.lst (L.map T.int))) x4 x5 x6') false := len_var rfl
  have rg := rg1 (a := eLen (eVar 3)) ln (small62_of ⟨by omega, by rw [List.length_map]; omega⟩)
  let ρ0 : Rho := rP (wW dat n x1 x3 hs ws x6 x7 x8 x9) rows (some (.int h)) (some (.lst (L.map T.int))) x4 x5 none
  have key := lc_fmap (set := (gN 6).sem) (tt := fpC.tt) (te := fpC.el.sem) (vs := [6]) (ρ := ρ0) (p := fun t => match t with | .int k => decide (0 < L.getD k.toNat 0) | _ => false) (f := fun t => match t with | .int k => .tup [.int k, .int (L.getD k.toNat 0)] | _ => .non)
    (rangeL 0 ((L.map T.int).length : Nat)) [] (fun t ht => by
      obtain ⟨k, rfl, hk⟩ := rangeL_mem ht
      rw [show (0 : Int) + (k : Int) = k by omega] at hk ⊢
      have hk' : k < L.length := by rw [List.length_map] at hk; omega
      have gl : (L.map T.int)[k]? = some (.int L[k]) := by rw [List.getElem?_map, List.getElem?_eq_getElem hk']; rfl
      have gd : L.getD k 0 = L[k] := by rw [List.getD_eq_getElem?_getD, List.getElem?_eq_getElem hk']; rfl
      let ρ1 : Rho := rP (wW dat n x1 x3 hs ws x6 x7 x8 x9) rows (some (.int h)) (some (.lst (L.map T.int))) x4 x5 (some (.int k))
      have iv : (eIx (eVar 3) (eVar 6)).sem ρ1 = .ok (.v (.int L[k])) ρ1 false := ix_lv (ts := L.map T.int) rfl rfl gl rfl
      refine ⟨ρ1, rfl, ?_, fun _ => ?_, rfl⟩
      · show (bCmp .Gt (eIx (eVar 3) (eVar 6)) (eInt 0)).sem ρ1 = .ok (decide (0 < L.getD k 0)) ρ1 false
        rw [gd]
        exact b_cmp (τ1 := false) (τ2 := false) (o2 := .v (.int 0)) (y := .int 0) iv rfl rfl rfl rfl rfl rfl
      · show (eTup (xs [(eVar 6), (eIx (eVar 3) (eVar 6))])).sem ρ1 = .ok (.v (.tup [.int k, .int (L.getD k 0)])) ρ1 false
        rw [gd]
        exact e_tup (ts := [.int k, .int L[k]]) (evc (τ1 := false) (τ2 := false) (v_imm rfl rfl) (evc (τ1 := false) (τ2 := false) iv evn)) (show 2 ≤ 10000 by decide))
    (by rw [rangeL_len, List.length_map, sizeLine_eq]; simp only [List.length_nil]; omega)
  refine ⟨_, e_lc (l := fpC) (τ2 := false) rg (calm_at1 (i := 6) rfl c6) key (.inr rfl), imms_of fun t ht => ?_⟩
  rw [List.nil_append] at ht
  obtain ⟨u, _, rfl⟩ := List.mem_map.mp ht
  cases u <;> rfl
theorem fpH_ok (hw : ws.length ≤ 3) (hb : dat = 1 ∨ dat = 2) {R : List T} (im : T.imms R = true) (lR : R.length < 1000) {h : Nat} {lots x4 x5 x6' : Option T} (c4 : CalmO x4) (c6 : CalmO x6') :
    ∃ (t : T) (lots' x4' x5' x6'' : Option T), fpH.sem (rP (wW dat n x1 x3 hs ws x6 x7 x8 x9) (.lst R) (some (.int h)) lots x4 x5 x6') = .nx (rP (wW dat n x1 x3 hs ws x6 x7 x8 x9) (.lst (R ++ [t])) (some (.int h)) lots' x4' x5' x6'') ∧ t.imm = true ∧ CalmO x4' ∧ CalmO x6'' := by
  have it : (iSeq (eIx (eVar 0) (eInt 5))).sem (rP (wW dat n x1 x3 hs ws x6 x7 x8 x9) (.lst R) (some (.int h)) lots x4 x5 x6') = .ok (ws.map wiT) (rP (wW dat n x1 x3 hs ws x6 x7 x8 x9) (.lst R) (some (.int h)) lots x4 x5 x6') false true :=
    i_seqL (τ := false) (o := .p 0 [5]) (by kernel_rfl) rfl (wis_im ws)
  have z := lc_map (set := (gN 4).sem) (tt := Lc.tt ⟨[4], (gN 4), (iSeq (eIx (eVar 0) (eInt 5))), none, (eInt 0)⟩) (te := (eInt 0).sem) (vs := [4]) (ρ := rP (wW dat n x1 x3 hs ws x6 x7 x8 x9) (.lst R) (some (.int h)) lots none x5 x6') (f := fun _ => .int 0) (ws.map wiT) []
    (fun t _ => ⟨rP (wW dat n x1 x3 hs ws x6 x7 x8 x9) (.lst R) (some (.int h)) lots (some t) x5 x6', _, rfl, rfl, rfl, rfl⟩) (by rw [List.length_map, sizeLine_eq]; simp only [List.length_nil]; omega)
  have s1 := s_setLcC (i := 3) (e_lc (l := ⟨[4], (gN 4), (iSeq (eIx (eVar 0) (eInt 5))), none, (eInt 0)⟩) it (calm_at1 (i := 4) rfl c4) z (.inr rfl)) (show 3 < 7 by decide)
  rw [show ([] : List T) ++ (ws.map wiT).map (fun _ => T.int 0) = (ws.map fun _ => (0 : Int)).map T.int by simp [Function.comp_def]] at s1
  obtain ⟨L', y4, y5, y6, q1, g1, g2, g3⟩ := fpD_ok (dat := dat) (n := n) (x1 := x1) (x3 := x3) (hs := hs) (ws := ws) (x6 := x6) (x7 := x7) (x8 := x8) (x9 := x9) hw hb (.lst R) (h := h) (L := ws.map fun _ => (0 : Int)) (by simp) (x5 := x5) c4 c6
  obtain ⟨acc, q2, ia⟩ := fpC_ok (dat := dat) (n := n) (x1 := x1) (x3 := x3) (hs := hs) (ws := ws) (x6 := x6) (x7 := x7) (x8 := x8) (x9 := x9) hw (.lst R) (h := h) g1 (x4 := y4) (x5 := y5) g3
  have s3 := s_app (i := 1) (ts := R) (ts1 := R) rfl (e_tuple q2 rfl rfl ia) rfl (by rw [sizeLine_eq]; omega)
  exact ⟨.tup acc, some (.lst (L'.map T.int)), y4, y5, y6, (b_nx s1).trans ((b_nx q1).trans ((b_nx s3).trans b_nil)), ia, g2, g3⟩
theorem policy_ok (hw : ws.length ≤ 3) (hb : dat = 1 ∨ dat = 2) (hh : hs.length ≤ 3) : ∃ t : T, φ_law_first_policy [wW dat n x1 x3 hs ws x6 x7 x8 x9] = .ok t [some (wW dat n x1 x3 hs ws x6 x7 x8 x9)] ∧ t.imm = true := by
  let W := wW dat n x1 x3 hs ws x6 x7 x8 x9
  have s1 : (sSet (gN 1) (eLst (xs []))).sem [some W, none, none, none, none, none, none] = .nx (rP W (.lst []) none none none none none) := s_set (ρ1 := [some W, none, none, none, none, none, none]) (t := .lst []) (τ := false) rfl rfl
  have ln : (eLen (eIx (eVar 0) (eInt 4))).sem (rP W (.lst []) none none none none none) = .ok (.v (.int hs.length)) (rP W (.lst []) none none none none none) false := by
    have : (eLen (eIx (eVar 0) (eInt 4))).sem (rP W (.lst []) none none none none none) = .ok (.v (.int (hs.map ho).length)) (rP W (.lst []) none none none none none) false := by kernel_rfl
    rw [List.length_map] at this
    exact this
  have rg := rg1 (a := eLen (eIx (eVar 0) (eInt 4))) ln (small62_of ⟨by omega, by omega⟩)
  obtain ⟨ρ', e, R, y2, y3, y4, y5, y6, rfl, g1, g2, g3, g4, _⟩ := for_inv (set := (gN 2).sem) (b := fpH.sem)
    (fun items ρ => ∃ (R : List T) (y2 y3 y4 y5 y6 : Option T), ρ = rP W (.lst R) y2 y3 y4 y5 y6 ∧ T.imms R = true ∧ R.length + items.length ≤ 3 ∧ CalmO y4 ∧ CalmO y6 ∧ ∀ t ∈ items, ∃ k : Nat, t = .int k)
    (fun t ts ρ ⟨R, y2, y3, y4, y5, y6, e, g1, g2, g3, g4, g5⟩ => by
      subst e
      simp only [List.length_cons] at g2
      obtain ⟨k, rfl⟩ := g5 t List.mem_cons_self
      obtain ⟨u, z3, z4, z5, z6, p1, p2, p3, p4⟩ := fpH_ok (dat := dat) (n := n) (x1 := x1) (x3 := x3) (hs := hs) (ws := ws) (x6 := x6) (x7 := x7) (x8 := x8) (x9 := x9) hw hb g1 (by omega) (h := k) (lots := y3) (x5 := y5) g3 g4
      exact ⟨rP W (.lst R) (some (.int k)) y3 y4 y5 y6, _, rfl, p1, R ++ [u], some (.int k), z3, z4, z5, z6, rfl, imms_of (mem_app1 (Q := fun t => t.imm = true) (imms_mem g1) p2), by simp only [List.length_append, List.length_cons, List.length_nil]; omega, p3, p4, fun v hv => g5 v (List.mem_cons_of_mem _ hv)⟩)
    (rangeL 0 hs.length) (rP W (.lst []) none none none none none) ⟨[], none, none, none, none, none, rfl, rfl, by rw [rangeL_len]; simp only [List.length_nil]; omega, calmO_none, calmO_none, fun t ht => by
      obtain ⟨k, rfl, hk⟩ := rangeL_mem ht
      exact ⟨k, by rw [Int.zero_add]⟩⟩
  exact ⟨.tup R, fn_ret (b := b_law_first_policy) rfl ((b_nx s1).trans ((b_nx ((s_for rg).trans e)).trans (b_ret (s_ret (e_tuple (v_lst rfl) rfl rfl g1))))) rfl rfl, g1⟩
end
end K81
set_option Elab.async false
set_option linter.all false
set_option maxRecDepth 100000
set_option maxHeartbeats 4000000
/-! k81: the world. -/
namespace K81
open PySem L2 Pv
abbrev kd (k : Int) : T := .tup [.int k, .int k, .int 8, .int 0]
abbrev rW (d : T) (n x c m dat : Nat) (w tn st sw wh : Option T) : Rho := [some d, some (.int n), some (.int x), some (.int c), some (.int m), some (.int dat), some (.int 4), some (.int 1), some (.int 1), w, tn, st, sw, wh]
abbrev w0 (dat n : Nat) (ls : List (Nat × Nat)) (x4 x5 x6 x7 x8 : T) : T := .lst [.int dat, .int 4, .int n, .lst (ls.map lk), x4, x5, x6, x7, x8, .dct false [] []]
/-- a drawn world -/
structure Wo where
  dat : Nat
  n : Nat
  ls : List (Nat × Nat)
  hs : List (Nat × Str)
  ws : List Wi
  pol : T
def whole (dat : Nat) : Int := 2 ^ (dat + 4) - 1
abbrev Wo.tree (w : Wo) : T := w0 w.dat w.n w.ls (.lst (w.hs.map ho)) (.lst (w.ws.map wiT)) w.pol (.lst (List.replicate w.n (.int 400))) (.lst (List.replicate w.n (kd (whole w.dat))))
structure Wo.Ok (w : Wo) : Prop where
  dat : w.dat = 1 ∨ w.dat = 2
  n2 : 2 ≤ w.n
  n4 : w.n ≤ 4
  ls5 : w.ls.length ≤ 5
  ls : ∀ p ∈ w.ls, p.1 < w.n ∧ p.2 < w.n
  hs : HsOk w.n w.hs
  ws1 : 1 ≤ w.ws.length
  ws3 : w.ws.length ≤ 3
  ws : ∀ x ∈ w.ws, WiOk w.n w.hs.length x
  pol : w.pol.imm = true
def woW : Lc := ⟨[11], (gN 11), (iRange1 (eVar 4)), none, (eCall F_law_wish (xs [(eVar 0), (eVar 9), (eVar 7), (eVar 8)]))⟩
theorem wo_wishes {d : T} (hd : Dg d) {n x c m dat : Nat} (hb : dat = 1 ∨ dat = 2) (hn : 2 ≤ n) (hn2 : n ≤ 4) (hm : m ≤ 3) {ls : List (Nat × Nat)} {hs : List (Nat × Str)} (k : HsOk n hs) (tn : Option T) :
    ∃ (ws : List Wi) (d' : T) (τ : Bool), (eLc woW).sem (rW d n x c m dat (some (w0 dat n ls (.lst (hs.map ho)) (.lst []) (.tup []) (.lst []) (.lst []))) tn none none none) = .ok (.v (.lst (ws.map wiT))) (rW d' n x c m dat (some (w0 dat n ls (.lst (hs.map ho)) (.lst []) (.tup []) (.lst []) (.lst []))) tn none none none) τ ∧ Dg d' ∧ ws.length = m ∧ ∀ w ∈ ws, WiOk n hs.length w := by
  let W := w0 dat n ls (.lst (hs.map ho)) (.lst []) (.tup []) (.lst []) (.lst [])
  have rg : (iRange1 (eVar 4)).sem (rW d n x c m dat (some W) tn none none none) = .ok (rangeL 0 m) (rW d n x c m dat (some W) tn none none none) false false := rg1 (τ := false) (j := m) rfl (small62_of ⟨by omega, by omega⟩)
  obtain ⟨acc, ρ', τ', e, d', ws, rfl, rfl, g1, g2, g3⟩ := lc_inv (set := (gN 11).sem) (tt := woW.tt) (te := woW.el.sem) (vs := [11])
      (fun items acc ρ => ∃ (d' : T) (ws : List Wi), ρ = rW d' n x c m dat (some W) tn none none none ∧ acc = ws.map wiT ∧ Dg d' ∧ ws.length + items.length = m ∧ ∀ w ∈ ws, WiOk n hs.length w)
      (fun t ts acc ρ ⟨d, ws, h1, h2, h3, h4, h5⟩ => by
        subst h1 h2
        simp only [List.length_cons] at h4
        obtain ⟨w, d2, q1, q2, q3⟩ := wish_ok h3 hb hn hn2 k (x1 := .int 4) (x3 := .lst (ls.map lk)) (x5 := .lst []) (x6 := .tup []) (x7 := .lst []) (x8 := .lst []) (x9 := .dct false [] [])
        obtain ⟨ts0, rfl⟩ := dg_shape h3
        have cl : woW.el.sem (rW (.lst ts0) n x c m dat (some W) tn (some t) none none) = .ok (.v (wiT w)) (rW d2 n x c m dat (some W) tn (some t) none none) true :=
          e_callF (F := F_law_wish) (φ := φ_law_wish) rfl (ρ1 := rW (.lst ts0) n x c m dat (some W) tn (some t) none none) (τ := false) (os := [.p 0 [], .p 9 [], .v (.int 1), .v (.int 1)]) (ts := [.lst ts0, W, .int 1, .int 1]) (by kernel_rfl) (by kernel_rfl) (by kernel_rfl) (by kernel_rfl) q1 (by kernel_rfl)
        refine ⟨by rw [List.length_map, sizeLine_eq]; omega, rW (.lst ts0) n x c m dat (some W) tn (some t) none none, rW (.lst ts0) n x c m dat (some W) tn (some t) none none, false, rfl, .inl ⟨wiT w, rW d2 n x c m dat (some W) tn (some t) none none, true, rfl, cl, d2, ws ++ [w], rfl, by simp, q2, by simp only [List.length_append, List.length_cons, List.length_nil]; omega, fun u hu => ?_⟩⟩
        rcases List.mem_append.mp hu with hu | hu
        · exact h5 u hu
        · have : u = w := by simpa using hu
          rw [this]; exact q3)
      (rangeL 0 m) [] (rW d n x c m dat (some W) tn none none none) false ⟨d, [], rfl, rfl, hd, by rw [rangeL_len]; simp only [List.length_nil]; omega, fun w h => by cases h⟩
  exact ⟨ws, d', _, e_lc (l := woW) rg rfl e (.inl rfl), g1, by simpa using g2, g3⟩
theorem world_ok {d : T} (hd : Dg d) {n x c m dat : Nat} (hb : dat = 1 ∨ dat = 2) (hn : 2 ≤ n) (hn2 : n ≤ 4) (hx : x ≤ 2) (hc : c = 2 ∨ c = 3) (hm1 : 1 ≤ m) (hm : m ≤ 3) :
    ∃ (w : Wo) (d' : T), φ_law_world [d, .int n, .int x, .int c, .int m, .int dat, .int 4, .int 1, .int 1] = .ok w.tree [some d', some (.int n), some (.int x), some (.int c), some (.int m), some (.int dat), some (.int 4), some (.int 1), some (.int 1)] ∧ Dg d' ∧ w.Ok := by
  obtain ⟨ts0, e0⟩ := dg_shape hd
  have cal : calmArgs b_law_world.asg 0 [d, .int n, .int x, .int c, .int m, .int dat, .int 4, .int 1, .int 1] = true := by rw [e0]; rfl
  obtain ⟨ls, d1, p1, p2, p3, p4⟩ := links_ok hd hn hn2 hx
  have cl : (eCall F_law_links (xs [(eVar 0), (eVar 1), (eVar 2)])).sem (rW d n x c m dat none none none none none) = .ok (.v (.lst (ls.map lk))) (rW d1 n x c m dat none none none none none) true := by
    rw [e0] at p1 ⊢
    exact e_callF (F := F_law_links) (φ := φ_law_links) rfl (ρ1 := rW (.lst ts0) n x c m dat none none none none none) (τ := false) (os := [.p 0 [], .v (.int n), .v (.int x)]) (ts := [.lst ts0, .int n, .int x]) (by kernel_rfl) (by kernel_rfl) (by kernel_rfl) (by kernel_rfl) p1 (by kernel_rfl)
  have s1 : (sSet (gN 9) (eLst (xs [(eVar 5), (eVar 6), (eVar 1), (eCall F_law_links (xs [(eVar 0), (eVar 1), (eVar 2)])), (eLst (xs [])), (eLst (xs [])), (eTup (xs [])), (eLst (xs [])), (eLst (xs [])), (eDict0 false)]))).sem (rW d n x c m dat none none none none none) =
      .nx (rW d1 n x c m dat (some (w0 dat n ls (.lst []) (.lst []) (.tup []) (.lst []) (.lst []))) none none none none) := by
    refine s_set (ρ1 := rW d1 n x c m dat none none none none none) (τ := true) (t := w0 dat n ls (.lst []) (.lst []) (.tup []) (.lst []) (.lst [])) ?_ rfl
    have r : evL (xs [(eLst (xs [])), (eLst (xs [])), (eTup (xs [])), (eLst (xs [])), (eLst (xs [])), (eDict0 false)]).sems (rW d1 n x c m dat none none none none none) = .ok [.v (.lst []), .v (.lst []), .v (.tup []), .v (.lst []), .v (.lst []), .v (.dct false [] [])] (rW d1 n x c m dat none none none none none) false := by kernel_rfl
    have e := evc (s := (eVar 5).sem) (t := .int dat) (τ1 := false) (ρ := rW d n x c m dat none none none none none) (ρ1 := rW d n x c m dat none none none none none) rfl (evc (s := (eVar 6).sem) (t := .int 4) (τ1 := false) (ρ1 := rW d n x c m dat none none none none none) rfl (evc (s := (eVar 1).sem) (t := .int n) (τ1 := false) (ρ1 := rW d n x c m dat none none none none none) rfl (evc cl r)))
    show opSem (xs [(eVar 5), (eVar 6), (eVar 1), (eCall F_law_links (xs [(eVar 0), (eVar 1), (eVar 2)])), (eLst (xs [])), (eLst (xs [])), (eTup (xs [])), (eLst (xs [])), (eLst (xs [])), (eDict0 false)]).sems lstF (rW d n x c m dat none none none none none) = _
    unfold opSem
    rw [show (xs [(eVar 5), (eVar 6), (eVar 1), (eCall F_law_links (xs [(eVar 0), (eVar 1), (eVar 2)])), (eLst (xs [])), (eLst (xs [])), (eTup (xs [])), (eLst (xs [])), (eLst (xs [])), (eDict0 false)]).sems = (eVar 5).sem :: (eVar 6).sem :: (eVar 1).sem :: (eCall F_law_links (xs [(eVar 0), (eVar 1), (eVar 2)])).sem :: (xs [(eLst (xs [])), (eLst (xs [])), (eTup (xs [])), (eLst (xs [])), (eLst (xs [])), (eDict0 false)]).sems from rfl, e]
    kernel_rfl
  generalize hw1 : w0 dat n ls (.lst []) (.lst []) (.tup []) (.lst []) (.lst []) = W1 at *
  obtain ⟨k, d2, q1, q2, _⟩ := e_draw p2 (m := 2) (by decide) (a := eInt 2) (r := [some (.int n), some (.int x), some (.int c), some (.int m), some (.int dat), some (.int 4), some (.int 1), some (.int 1), some W1, none, none, none, none]) rfl
  have cc : (bCmp .Eq (eCall F_law_draw (xs [(eVar 0), (eInt 2)])) (eInt 0)).sem (rW d1 n x c m dat (some W1) none none none none) = .ok (k == 0) (rW d2 n x c m dat (some W1) none none none none) true := b_cmp (τ2 := false) (o2 := .v (.int 0)) (y := .int 0) q1 rfl rfl rfl rfl rfl rfl
  obtain ⟨tn, s2, t1, t2, t3, t4⟩ : ∃ tn : List T, (sSet (gN 10) (eIf (bCmp .Eq (eCall F_law_draw (xs [(eVar 0), (eInt 2)])) (eInt 0)) (eLst (xs [(eStr "red")])) (eLst (xs [(eStr "red"), (eStr "red"), (eStr "blue"), (eStr "all")])))).sem (rW d1 n x c m dat (some W1) none none none none) = .nx (rW d2 n x c m dat (some W1) (some (.lst tn)) none none none) ∧ (∀ t ∈ tn, ∃ s, t = .str s) ∧ 0 < tn.length ∧ tn.length ≤ 4 ∧ ∀ s, T.str s ∈ tn → s ∈ tenants := by
    cases hk : (k == 0) with
    | true =>
      rw [hk] at cc
      refine ⟨[.str "red"], s_set (e_if (τ2 := false) (ρ2 := rW d2 n x c m dat (some W1) none none none none) cc rfl) rfl, fun t h => ⟨_, by simpa using h⟩, by decide, by decide, fun s h => ?_⟩
      simp only [List.mem_cons, List.not_mem_nil, or_false, T.str.injEq] at h
      subst h
      exact List.mem_cons_self
    | false =>
      rw [hk] at cc
      refine ⟨[.str "red", .str "red", .str "blue", .str "all"], s_set (e_if (τ2 := false) (ρ2 := rW d2 n x c m dat (some W1) none none none none) cc rfl) rfl, fun t h => ?_, by decide, by decide, fun s h => ?_⟩
      · simp only [List.mem_cons, List.not_mem_nil, or_false] at h
        rcases h with rfl | rfl | rfl | rfl <;> exact ⟨_, rfl⟩
      · simp only [List.mem_cons, List.not_mem_nil, or_false, T.str.injEq] at h
        rcases h with rfl | rfl | rfl | rfl <;> simp [tenants]
  obtain ⟨hs, d3, r1, r2, r3, r4⟩ := hosts_ok q2 hn hn2 (c := c) (by omega) t1 t2 t3
  have kh : HsOk n hs := ⟨by omega, fun h hh => (r4 h hh).1, fun h hh => t4 _ (r4 h hh).2⟩
  have e2 := dg_shape q2
  obtain ⟨ts2, e2⟩ := e2
  have cl2 : (eCall F_law_hosts (xs [(eVar 0), (eVar 3), (eVar 1), (eVar 10)])).sem (rW d2 n x c m dat (some W1) (some (.lst tn)) none none none) = .ok (.v (.lst (hs.map ho))) (rW d3 n x c m dat (some W1) (some (.lst tn)) none none none) true := by
    rw [e2] at r1 ⊢
    exact e_callF (F := F_law_hosts) (φ := φ_law_hosts) rfl (ρ1 := rW (.lst ts2) n x c m dat (some W1) (some (.lst tn)) none none none) (τ := false) (os := [.p 0 [], .v (.int c), .v (.int n), .p 10 []]) (ts := [.lst ts2, .int c, .int n, .lst tn]) (by kernel_rfl) (by kernel_rfl) (by kernel_rfl) (by kernel_rfl) r1 (by kernel_rfl)
  have s3 := s_setix (i0 := 9) (j := 4) (k := 4) (ts := [.int dat, .int 4, .int n, .lst (ls.map lk), .lst [], .lst [], .tup [], .lst [], .lst [], .dct false [] []]) cl2 (by rw [← hw1]; rfl) rfl
  obtain ⟨ws, d4, τ, u1, u2, u3, u4⟩ := wo_wishes r2 (x := x) (c := c) hb hn hn2 hm (ls := ls) kh (some (.lst tn))
  have s4 := s_setix (i0 := 9) (j := 5) (k := 5) (ts := [.int dat, .int 4, .int n, .lst (ls.map lk), .lst (hs.map ho), .lst [], .tup [], .lst [], .lst [], .dct false [] []]) u1 rfl rfl
  obtain ⟨pol, v1, v2⟩ := policy_ok (dat := dat) (n := n) (x1 := .int 4) (x3 := .lst (ls.map lk)) (hs := hs) (ws := ws) (x6 := .tup []) (x7 := .lst []) (x8 := .lst []) (x9 := .dct false [] []) (by omega) hb (by omega)
  have cl3 : (eCall F_law_first_policy (xs [(eVar 9)])).sem (rW d4 n x c m dat (some (w0 dat n ls (.lst (hs.map ho)) (.lst (ws.map wiT)) (.tup []) (.lst []) (.lst []))) (some (.lst tn)) none none none) = .ok (.v pol) (rW d4 n x c m dat (some (w0 dat n ls (.lst (hs.map ho)) (.lst (ws.map wiT)) (.tup []) (.lst []) (.lst []))) (some (.lst tn)) none none none) true :=
    e_callF (F := F_law_first_policy) (φ := φ_law_first_policy) rfl (ρ1 := rW d4 n x c m dat (some (w0 dat n ls (.lst (hs.map ho)) (.lst (ws.map wiT)) (.tup []) (.lst []) (.lst []))) (some (.lst tn)) none none none) (τ := false) (os := [.p 9 []]) (ts := [w0 dat n ls (.lst (hs.map ho)) (.lst (ws.map wiT)) (.tup []) (.lst []) (.lst [])]) (by kernel_rfl) (by kernel_rfl) (by kernel_rfl) (by kernel_rfl) v1 (by kernel_rfl)
  have s5 := s_setix (i0 := 9) (j := 6) (k := 6) (ts := [.int dat, .int 4, .int n, .lst (ls.map lk), .lst (hs.map ho), .lst (ws.map wiT), .tup [], .lst [], .lst [], .dct false [] []]) cl3 rfl rfl
  have fin : (blk [sSetIx (eVar 9) (eInt 7) (eLc ⟨[12], (gN 12), (iRange1 (eVar 1)), none, (eInt 400)⟩),
      sSet (gN 13) (eBin .Sub (eBin .LShift (eInt 1) (eBin .Add (eVar 5) (eVar 6))) (eInt 1)),
      sSetIx (eVar 9) (eInt 8) (eLc ⟨[12], (gN 12), (iRange1 (eVar 1)), none, (eTup (xs [(eVar 13), (eVar 13), (eInt 8), (eInt 0)]))⟩),
      sRet (eVar 9)]).sem (rW d4 n x c m dat (some (w0 dat n ls (.lst (hs.map ho)) (.lst (ws.map wiT)) pol (.lst []) (.lst []))) (some (.lst tn)) none none none) =
      .ret (Wo.tree ⟨dat, n, ls, hs, ws, pol⟩) (rW d4 n x c m dat none (some (.lst tn)) none none (some (.int (whole dat)))) := by
    obtain rfl | rfl | rfl : n = 2 ∨ n = 3 ∨ n = 4 := by omega
    all_goals rcases hb with rfl | rfl
    all_goals kernel_rfl
  refine ⟨⟨dat, n, ls, hs, ws, pol⟩, d4, fn_ret (b := b_law_world) rfl ((b_nx s1).trans ((b_nx s2).trans ((b_nx s3).trans ((b_nx s4).trans ((b_nx s5).trans fin))))) ?_ cal, u2, ⟨hb, hn, hn2, p3, p4, kh, (show 1 ≤ ws.length by omega), (show ws.length ≤ 3 by omega), u4, v2⟩⟩
  rw [e0]
  rfl
end K81
set_option Elab.async false
set_option linter.all false
set_option maxRecDepth 100000
set_option maxHeartbeats 4000000
/-! k81: the small world; the names. -/
namespace K81
open PySem L2 Pv
theorem e_addN {a b : Ex} {ρ ρ1 ρ2 : Rho} {x y : Nat} {τ1 τ2 : Bool} (h1 : a.sem ρ = .ok (.v (.int x)) ρ1 τ1) (h2 : b.sem ρ1 = .ok (.v (.int y)) ρ2 τ2) : (eBin .Add a b).sem ρ = .ok (.v (.int (x + y : Nat))) ρ2 (τ1 || τ2) :=
  e_bin (o1 := .v (.int x)) (o2 := .v (.int y)) h1 h2 rfl rfl rfl rfl (by rw [Int.natCast_add]; rfl)
theorem small_ok {d : T} (hd : Dg d) : ∃ (w : Wo) (d' : T), φ_law_small [d] = .ok w.tree [some d'] ∧ Dg d' ∧ w.Ok := by
  obtain ⟨ts0, e0⟩ := dg_shape hd
  have cal : calmArgs b_law_small.asg 0 [d] = true := by rw [e0]; rfl
  obtain ⟨a, d1, p1, g1, b1⟩ := e_drawN hd (m := 3) (by omega) (by omega) (a := eInt 3) (r := [none, none, none]) rfl
  have s1 := s_set (tg := gN 1) (e_addN (a := eInt 2) (x := 2) (τ1 := false) rfl p1) (ρ2 := [some d1, some (.int (2 + a : Nat)), none, none]) rfl
  obtain ⟨b, d2, p2, g2, b2⟩ := e_drawN g1 (m := 2) (by omega) (by omega) (a := eInt 2) (r := [some (.int (2 + a : Nat)), none, none]) rfl
  have s2 := s_set (tg := gN 2) (e_addN (a := eInt 2) (x := 2) (τ1 := false) rfl p2) (ρ2 := [some d2, some (.int (2 + a : Nat)), some (.int (2 + b : Nat)), none]) rfl
  obtain ⟨c, d3, p3, g3, b3⟩ := e_drawN g2 (m := 3) (by omega) (by omega) (a := eInt 3) (r := [some (.int (2 + a : Nat)), some (.int (2 + b : Nat)), none]) rfl
  have s3 := s_set (tg := gN 3) (e_addN (a := eInt 1) (x := 1) (τ1 := false) rfl p3) (ρ2 := [some d3, some (.int (2 + a : Nat)), some (.int (2 + b : Nat)), some (.int (1 + c : Nat))]) rfl
  obtain ⟨x, d4, p4, g4, b4⟩ := e_drawN g3 (m := 3) (by omega) (by omega) (a := eInt 3) (r := [some (.int (2 + a : Nat)), some (.int (2 + b : Nat)), some (.int (1 + c : Nat))]) rfl
  obtain ⟨y, d5, p5, g5, b5⟩ := e_drawN g4 (m := 2) (by omega) (by omega) (a := eInt 2) (r := [some (.int (2 + a : Nat)), some (.int (2 + b : Nat)), some (.int (1 + c : Nat))]) rfl
  have a5 := e_addN (a := eInt 1) (x := 1) (τ1 := false) (ρ := [some d4, some (.int (2 + a : Nat)), some (.int (2 + b : Nat)), some (.int (1 + c : Nat))]) (ρ1 := [some d4, some (.int (2 + a : Nat)), some (.int (2 + b : Nat)), some (.int (1 + c : Nat))]) rfl p5
  obtain ⟨w, d6, q1, q2, q3⟩ := world_ok g5 (n := 2 + a) (x := x) (c := 2 + b) (m := 1 + c) (dat := 1 + y) (by omega) (by omega) (by omega) (by omega) (by omega) (by omega) (by omega)
  obtain ⟨ts3, e3⟩ := dg_shape g3
  obtain ⟨ts5, e5⟩ := dg_shape g5
  generalize ha : (2 + a : Nat) = A at *
  generalize hb : (2 + b : Nat) = B at *
  generalize hc : (1 + c : Nat) = C at *
  generalize hy : (1 + y : Nat) = Y at *
  let ρ3 : Rho := [some d3, some (.int A), some (.int B), some (.int C)]
  let ρ4 : Rho := [some d4, some (.int A), some (.int B), some (.int C)]
  let ρ5 : Rho := [some d5, some (.int A), some (.int B), some (.int C)]
  have cl : (eCall F_law_world (xs [(eVar 0), (eVar 1), (eCall F_law_draw (xs [(eVar 0), (eInt 3)])), (eVar 2), (eVar 3), (eBin .Add (eInt 1) (eCall F_law_draw (xs [(eVar 0), (eInt 2)]))), (eInt 4), (eInt 1), (eInt 1)])).sem ρ3 = .ok (.v w.tree) [some d6, some (.int A), some (.int B), some (.int C)] true :=
    e_callF (F := F_law_world) (φ := φ_law_world) rfl (ρ1 := ρ5) (τ := true) (os := [.p 0 [], .v (.int A), .v (.int x), .v (.int B), .v (.int C), .v (.int Y), .v (.int 4), .v (.int 1), .v (.int 1)]) (ts := [d5, .int A, .int x, .int B, .int C, .int Y, .int 4, .int 1, .int 1])
      (evp (ρ := ρ3) (ρ1 := ρ3) (τ1 := false) (τ2 := true) (by show (eVar 0).sem [some d3, some (.int A), some (.int B), some (.int C)] = .ok (.p 0 []) [some d3, some (.int A), some (.int B), some (.int C)] false; rw [e3]; exact v_lst rfl) (evc (ρ1 := ρ3) (τ1 := false) (τ2 := true) (v_imm rfl rfl) (evc (ρ1 := ρ4) (τ1 := true) (τ2 := true) p4 (evc (ρ1 := ρ4) (τ1 := false) (τ2 := true) (v_imm rfl rfl) (evc (ρ1 := ρ4) (τ1 := false) (τ2 := true) (v_imm rfl rfl) (evc (ρ1 := ρ5) (τ1 := true) (τ2 := false) a5 (by kernel_rfl)))))) (by show O.there [some d5, some (.int A), some (.int B), some (.int C)] _ = _; rw [e5]; rfl)) rfl rfl rfl q1 (by show wb _ _ [some d5, some (.int A), some (.int B), some (.int C)] = _; rw [e5]; rfl)
  exact ⟨w, d6, fn_ret (b := b_law_small) rfl ((b_nx s1).trans ((b_nx s2).trans ((b_nx s3).trans (b_ret (s_ret cl))))) (by rw [e0]; rfl) cal, q2, q3⟩
end K81
set_option Elab.async false
set_option linter.all false
set_option maxRecDepth 100000
set_option maxHeartbeats 4000000
/-! k81: the names. -/
namespace Pv
open PySem L2
theorem cut_hi {α : Type} {xs : List α} {k : Nat} (h : k ≤ xs.length) : cutL xs none (some (k : Int)) = xs.take k := by
  unfold cutL
  rw [HT.sIx_none, HT.sIx_nat, List.drop_zero, Nat.min_eq_left h, Nat.sub_zero]
theorem cut_lo {α : Type} {xs : List α} {k : Nat} (h : k ≤ xs.length) : cutL xs (some (k : Int)) none = xs.drop k := by
  unfold cutL
  rw [HT.sIx_none, HT.sIx_nat, Nat.min_eq_left h]
  exact List.take_of_length_le (by rw [List.length_drop]; omega)
theorem cut_2 {α : Type} {xs : List α} {i j : Nat} (h : i ≤ xs.length) (hj : j ≤ xs.length) : cutL xs (some (i : Int)) (some (j : Int)) = (xs.drop i).take (j - i) := by
  unfold cutL
  rw [HT.sIx_nat, HT.sIx_nat, Nat.min_eq_left h, Nat.min_eq_left hj]
theorem int_sem {a : Ex} {ρ ρ1 : Rho} {i : Int} {τ : Bool} (h : a.sem ρ = .ok (.v (.int i)) ρ1 τ) : intSem a.sem ρ = .ok (.v (.int i)) ρ1 τ := by
  unfold intSem
  rw [h]
  rfl
section
variable {i : Nat} {ρ : Rho} {ts : List T} {a b : Ex}
theorem e_slH (h : ρ[i]? = some (some (.lst ts))) (im : T.imms ts = true) {k : Nat} (ha : a.sem ρ = .ok (.v (.int k)) ρ false) (hk : k ≤ ts.length) : (eSlH (eVar i) a).sem ρ = .ok (.v (.lst (ts.take k))) ρ false := by
  have th : O.there ρ (.p i []) = true := by simp only [O.there, h]
  show opSem [(eVar i).sem, intSem a.sem] (f2 slHF) ρ = _
  unfold opSem
  rw [ev2 (v_lst h) (int_sem ha) (by simp [th, O.deep]) rfl]
  simp only [f2, getO, h, T.at, slHF, sliceT, im, if_true, cut_hi hk]
  rfl
theorem e_slL (h : ρ[i]? = some (some (.lst ts))) (im : T.imms ts = true) {k : Nat} (ha : a.sem ρ = .ok (.v (.int k)) ρ false) (hk : k ≤ ts.length) : (eSlL (eVar i) a).sem ρ = .ok (.v (.lst (ts.drop k))) ρ false := by
  have th : O.there ρ (.p i []) = true := by simp only [O.there, h]
  show opSem [(eVar i).sem, intSem a.sem] (f2 slLF) ρ = _
  unfold opSem
  rw [ev2 (v_lst h) (int_sem ha) (by simp [th, O.deep]) rfl]
  simp only [f2, getO, h, T.at, slLF, sliceT, im, if_true, cut_lo hk]
  rfl
theorem e_sl2 (h : ρ[i]? = some (some (.lst ts))) (im : T.imms ts = true) {k j : Nat} (ha : a.sem ρ = .ok (.v (.int k)) ρ false) (hb : b.sem ρ = .ok (.v (.int j)) ρ false) (hk : k ≤ ts.length) (hj : j ≤ ts.length) : (eSl2 (eVar i) a b).sem ρ = .ok (.v (.lst ((ts.drop k).take (j - k)))) ρ false := by
  have th : O.there ρ (.p i []) = true := by simp only [O.there, h]
  show opSem [(eVar i).sem, intSem a.sem, intSem b.sem] (f3 sl2F) ρ = _
  unfold opSem
  have e2 := ev2 (int_sem ha) (int_sem hb) rfl rfl
  have e : evL [(eVar i).sem, intSem a.sem, intSem b.sem] ρ = .ok [.p i [], .v (.int k), .v (.int j)] ρ (false || (false || false)) := by
    unfold evL
    rw [v_lst h]
    simp only
    rw [e2]
    simp only
    rw [if_neg (by simp [O.deep, th])]
  rw [e]
  simp only [f3, getO, h, T.at, sl2F, sliceT, im, if_true, cut_2 hk hj]
  rfl
end
theorem strs_im (l : List Str) : T.imms (l.map T.str) = true := imms_of fun t ht => by obtain ⟨x, _, rfl⟩ := List.mem_map.mp ht; rfl
theorem strs_of : ∀ {ts : List T}, (∀ t ∈ ts, ∃ s, t = .str s) → ∃ l : List Str, ts = l.map T.str
  | [], _ => ⟨[], rfl⟩
  | t :: ts, h => by
    obtain ⟨s, rfl⟩ := h t List.mem_cons_self
    obtain ⟨l, rfl⟩ := strs_of (ts := ts) fun u hu => h u (List.mem_cons_of_mem _ hu)
    exact ⟨s :: l, rfl⟩
theorem perm_erase {α : Type} : ∀ (l : List α) (k : Nat) (h : k < l.length), (l[k] :: l.eraseIdx k).Perm l
  | [], k, h => by simp at h
  | a :: l, 0, h => List.Perm.refl _
  | a :: l, k + 1, h => by
    have h' : k < l.length := by simpa using h
    have := perm_erase l k h'
    exact (List.Perm.swap a l[k] (l.eraseIdx k)).trans (this.cons a)
theorem nodup_of_map {α β : Type} {f : α → β} : ∀ {l : List α}, (l.map f).Nodup → l.Nodup
  | [], _ => .nil
  | a :: l, h => by
    rw [List.map_cons, List.nodup_cons] at h
    exact List.nodup_cons.mpr ⟨fun z => h.1 (List.mem_map.mpr ⟨a, z, rfl⟩), nodup_of_map h.2⟩
theorem nodup_map_inj {α β : Type} {f : α → β} (hf : ∀ x y, f x = f y → x = y) : ∀ {l : List α}, l.Nodup → (l.map f).Nodup
  | [], _ => .nil
  | a :: l, h => by
    rw [List.nodup_cons] at h
    rw [List.map_cons, List.nodup_cons]
    refine ⟨fun z => ?_, nodup_map_inj hf h.2⟩
    obtain ⟨y, hy, e⟩ := List.mem_map.mp z
    exact h.1 (hf _ _ e ▸ hy)
end Pv
namespace K81
open PySem L2 Pv
theorem shufP_ok {d : T} (hd : Dg d) {row : List T} (him : T.imms row = true) (hl : row.length ≤ 1000) :
    ∃ out d', φ_law_shuffled [d, .lst row] = .ok (.lst out) [some d', some (.lst row)] ∧ Dg d' ∧ out.Perm row := by
  obtain ⟨ts0, e0⟩ := dg_shape hd
  have lst : (eList (eVar 1)).sem [some d, some (.lst row), none, none, none] = .ok (.v (.lst row)) [some d, some (.lst row), none, none, none] false := e_list (v_lst rfl) rfl rfl him
  have s1 : (sSet (gN 2) (eList (eVar 1))).sem [some d, some (.lst row), none, none, none] = .nx [some d, some (.lst row), some (.lst row), none, none] := s_set lst rfl
  have s2 : (sSet (gN 3) (eLst (xs []))).sem [some d, some (.lst row), some (.lst row), none, none] = .nx [some d, some (.lst row), some (.lst row), some (.lst []), none] := s_set (ρ1 := [some d, some (.lst row), some (.lst row), none, none]) (t := .lst []) (τ := false) rfl rfl
  have rg : (iRange1 (eLen (eVar 1))).sem [some d, some (.lst row), some (.lst row), some (.lst []), none] = .ok (rangeL 0 row.length) [some d, some (.lst row), some (.lst row), some (.lst []), none] false false := rg1 (len_var rfl) (small62_of ⟨by omega, by omega⟩)
  obtain ⟨ρ', e, d', left, found, st, g1, rfl, g2, g3⟩ := for_inv (set := (gN 4).sem) (b := (blk [sExpr (eAppend (eVar 3) (ePopAt (eVar 2) (eCall F_law_draw (xs [(eVar 0), (eLen (eVar 2))]))))]).sem)
    (fun items ρ => ∃ d left found st, Dg d ∧ ρ = [some d, some (.lst row), some (.lst left), some (.lst found), st] ∧ left.length = items.length ∧ (found ++ left).Perm row)
    (fun t ts ρ ⟨d, left, found, st, g1, e, g2, g3⟩ => by
      subst e
      simp only [List.length_cons] at g2
      have gl : found.length + left.length = row.length := by rw [← List.length_append]; exact g3.length_eq
      obtain ⟨k, d2, q1, q2, q3, q4, q5⟩ := e_draw g1 (m := left.length) (by omega) (a := eLen (eVar 2)) (r := [some (.lst row), some (.lst left), some (.lst found), some t]) (len_var rfl)
      have hk : k < (left.length : Int) := by
        by_cases h : (left.length : Int) < 2
        · rw [q4 h]; omega
        · exact q5 (by omega)
      have hk' : k.toNat < left.length := by omega
      have pp := e_popAt (i := 2) (us := left) (ts := left) rfl q1 rfl (ixN_in q3 hk) (List.getElem?_eq_getElem hk') (by rw [sizeLine_eq]; omega)
      refine ⟨[some d, some (.lst row), some (.lst left), some (.lst found), some t], _, rfl, (b_nx (s_app (ts := found) (ts1 := found) rfl pp rfl (by rw [sizeLine_eq]; omega))).trans b_nil, d2, left.eraseIdx k.toNat, found ++ [left[k.toNat]], some t, q2, rfl, ?_, ?_⟩
      · rw [List.length_eraseIdx_of_lt hk']; omega
      · rw [List.append_assoc]
        exact ((List.Perm.append_left found (perm_erase _ _ hk')).trans g3))
    (rangeL 0 row.length) [some d, some (.lst row), some (.lst row), some (.lst []), none] ⟨d, row, [], none, hd, rfl, by rw [rangeL_len]; omega, by simp⟩
  refine ⟨found, d', fn_ret (b := b_law_shuffled) rfl ((b_nx s1).trans ((b_nx s2).trans ((b_nx ((s_for rg).trans e)).trans (b_ret (s_ret_p (v_lst rfl) rfl))))) (by rw [e0]; rfl) (by rw [e0]; rfl), g1, ?_⟩
  have : left = [] := List.eq_nil_of_length_eq_zero (by simpa using g2)
  subst this
  simpa using g3
/-- the names that the law draws from, as its own def tells them -/
def strT : T → Str
  | .str s => s
  | _ => ""
def poolF : FR → List Str
  | .ok (.lst ts) _ => ts.map strT
  | _ => []
def poolS : List Str := poolF (φ_law_pool [])
theorem pool_ok : φ_law_pool [] = .ok (.lst (poolS.map T.str)) [] := by kernel_rfl
theorem pool_len : poolS.length = 50 := by kernel_rfl
theorem pool_nd : poolS.Nodup := by decide +kernel
structure Nm where
  a : List Str
  b : List Str
  c : List Str
  d : List Str
abbrev sl (l : List Str) : T := .lst (l.map T.str)
abbrev Nm.tree (x : Nm) : T := .lst [sl x.a, sl x.b, sl x.c, sl x.d]
structure Nm.Ok (x : Nm) (w : Wo) : Prop where
  a : x.a.length = w.n
  b : x.b.length = w.hs.length
  c : x.c.length = w.ws.length
  d : x.d.length = 10
  nd : x.c.Nodup
  pa : ∀ s ∈ x.a, s ∈ poolS
  pb : ∀ s ∈ x.b, s ∈ poolS
  pc : ∀ s ∈ x.c, s ∈ poolS
  pd : ∀ s ∈ x.d, s ∈ poolS
abbrev rN (d w : T) (nm f s : Option T) : Rho := [some d, some w, nm, f, s]
theorem names_ok {d : T} (hd : Dg d) {w : Wo} (k : w.Ok) : ∃ (x : Nm) (d' : T), φ_law_names [d, w.tree] = .ok x.tree [some d', some w.tree] ∧ Dg d' ∧ x.Ok w := by
  obtain ⟨out, d1, q1, g1, pm⟩ := shufP_ok hd (row := poolS.map T.str) (strs_im _) (by rw [List.length_map, pool_len]; omega)
  have cal : calmArgs b_law_names.asg 0 [d, w.tree] = true := by obtain ⟨ts0, rfl⟩ := dg_shape hd; rfl
  obtain ⟨L, rfl⟩ := strs_of (ts := out) fun t ht => by
    obtain ⟨s, _, rfl⟩ := List.mem_map.mp (pm.mem_iff.mp ht)
    exact ⟨s, rfl⟩
  have hL : L.length = 50 := by
    have := pm.length_eq
    simpa [pool_len] using this
  have nd : L.Nodup := nodup_of_map (f := T.str) (pm.nodup_iff.mpr (nodup_map_inj (fun x y e => by cases e; rfl) pool_nd))
  have mem : ∀ s ∈ L, s ∈ poolS := fun s hs => by
    obtain ⟨u, hu, e⟩ := List.mem_map.mp (pm.mem_iff.mp (List.mem_map.mpr ⟨s, hs, rfl⟩))
    cases e
    exact hu
  have s1 : (sSet (gN 2) (eCall F_law_shuffled (xs [(eVar 0), (eCall0 F_law_pool)]))).sem (rN d w.tree none none none) = .nx (rN d1 w.tree (some (sl L)) none none) := by
    obtain ⟨ts0, rfl⟩ := dg_shape hd
    have cp : (eCall0 F_law_pool).sem (rN (.lst ts0) w.tree none none none) = .ok (.v (.lst (poolS.map T.str))) (rN (.lst ts0) w.tree none none none) false := by kernel_rfl
    exact s_set (e_callF (F := F_law_shuffled) (φ := φ_law_shuffled) rfl (ρ1 := rN (.lst ts0) w.tree none none none) (τ := false) (os := [.p 0 [], .v (.lst (poolS.map T.str))]) (ts := [.lst ts0, .lst (poolS.map T.str)]) (evp (τ1 := false) (τ2 := false) (v_lst rfl) (evc (τ1 := false) (τ2 := false) cp evn) rfl) rfl rfl rfl q1 rfl) rfl
  have iN : ∀ f s, (eIx (eVar 1) (eInt 2)).sem (rN d1 w.tree (some (sl L)) f s) = .ok (.v (.int w.n)) (rN d1 w.tree (some (sl L)) f s) false := fun f s => by kernel_rfl
  have iH : ∀ f s, (eLen (eIx (eVar 1) (eInt 4))).sem (rN d1 w.tree (some (sl L)) f s) = .ok (.v (.int w.hs.length)) (rN d1 w.tree (some (sl L)) f s) false := fun f s => by
    have : (eLen (eIx (eVar 1) (eInt 4))).sem (rN d1 w.tree (some (sl L)) f s) = .ok (.v (.int (w.hs.map ho).length)) (rN d1 w.tree (some (sl L)) f s) false := by kernel_rfl
    rw [List.length_map] at this
    exact this
  have iW : ∀ f s, (eLen (eIx (eVar 1) (eInt 5))).sem (rN d1 w.tree (some (sl L)) f s) = .ok (.v (.int w.ws.length)) (rN d1 w.tree (some (sl L)) f s) false := fun f s => by
    have : (eLen (eIx (eVar 1) (eInt 5))).sem (rN d1 w.tree (some (sl L)) f s) = .ok (.v (.int (w.ws.map wiT).length)) (rN d1 w.tree (some (sl L)) f s) false := by kernel_rfl
    rw [List.length_map] at this
    exact this
  have n4 := k.n4
  have h3 : w.hs.length ≤ 3 := by rcases k.hs.len with z | z <;> omega
  have w3 := k.ws3
  have lm : (L.map T.str).length = 50 := by rw [List.length_map]; exact hL
  have s2 := s_set (tg := gN 3) (e_slH (i := 2) rfl (strs_im L) (iN none none) (by omega)) (ρ2 := rN d1 w.tree (some (sl L)) (some (.lst ((L.map T.str).take w.n))) none) rfl
  have s3 := s_set (tg := gN 4) (e_sl2 (i := 2) rfl (strs_im L) (iN (some (.lst ((L.map T.str).take w.n))) none) (e_addN (iN _ _) (iH _ _)) (by omega) (by omega)) (ρ2 := rN d1 w.tree (some (sl L)) (some (.lst ((L.map T.str).take w.n))) (some (.lst (((L.map T.str).drop w.n).take (w.n + w.hs.length - w.n))))) rfl
  generalize hA : (L.map T.str).take w.n = A at *
  generalize hB : ((L.map T.str).drop w.n).take (w.n + w.hs.length - w.n) = B at *
  have iA : T.imms A = true := by rw [← hA, ← List.map_take]; exact strs_im _
  have iB : T.imms B = true := by rw [← hB, ← List.map_drop, ← List.map_take]; exact strs_im _
  let ρ : Rho := rN d1 w.tree (some (sl L)) (some (.lst A)) (some (.lst B))
  have v1 : (eMove 3).sem ρ = .ok (.v (.lst A)) (rN d1 w.tree (some (sl L)) none (some (.lst B))) true := rfl
  have v2 : (eMove 4).sem (rN d1 w.tree (some (sl L)) none (some (.lst B))) = .ok (.v (.lst B)) (rN d1 w.tree (some (sl L)) none none) true := rfl
  have v3 := e_sl2 (ρ := rN d1 w.tree (some (sl L)) none none) (i := 2) rfl (strs_im L) (e_addN (iN none none) (iH _ _)) (e_addN (e_addN (iN _ _) (iH _ _)) (iW _ _)) (by omega) (by omega)
  have v4 := e_slL (ρ := rN d1 w.tree (some (sl L)) none none) (i := 2) (a := eInt 40) rfl (strs_im L) (k := 40) rfl (by omega)
  have ls : (eLst (xs [(eMove 3), (eMove 4), (eSl2 (eVar 2) (eBin .Add (eIx (eVar 1) (eInt 2)) (eLen (eIx (eVar 1) (eInt 4)))) (eBin .Add (eBin .Add (eIx (eVar 1) (eInt 2)) (eLen (eIx (eVar 1) (eInt 4)))) (eLen (eIx (eVar 1) (eInt 5))))), (eSlL (eVar 2) (eInt 40))])).sem ρ = .ok (.v (.lst [.lst A, .lst B, .lst (((L.map T.str).drop (w.n + w.hs.length)).take (w.n + w.hs.length + w.ws.length - (w.n + w.hs.length))), .lst ((L.map T.str).drop 40)])) (rN d1 w.tree (some (sl L)) none none) true := by
    have e := evc v1 (evc v2 (evc v3 (evc v4 evn)))
    show opSem (xs [(eMove 3), (eMove 4), (eSl2 (eVar 2) (eBin .Add (eIx (eVar 1) (eInt 2)) (eLen (eIx (eVar 1) (eInt 4)))) (eBin .Add (eBin .Add (eIx (eVar 1) (eInt 2)) (eLen (eIx (eVar 1) (eInt 4)))) (eLen (eIx (eVar 1) (eInt 5))))), (eSlL (eVar 2) (eInt 40))]).sems lstF ρ = _
    unfold opSem
    rw [show evL (xs [(eMove 3), (eMove 4), (eSl2 (eVar 2) (eBin .Add (eIx (eVar 1) (eInt 2)) (eLen (eIx (eVar 1) (eInt 4)))) (eBin .Add (eBin .Add (eIx (eVar 1) (eInt 2)) (eLen (eIx (eVar 1) (eInt 4)))) (eLen (eIx (eVar 1) (eInt 5))))), (eSlL (eVar 2) (eInt 40))]).sems ρ = _ from e]
    rfl
  have tr : T.lst [.lst A, .lst B, .lst (((L.map T.str).drop (w.n + w.hs.length)).take (w.n + w.hs.length + w.ws.length - (w.n + w.hs.length))), .lst ((L.map T.str).drop 40)] = Nm.tree ⟨L.take w.n, (L.drop w.n).take (w.n + w.hs.length - w.n), (L.drop (w.n + w.hs.length)).take (w.n + w.hs.length + w.ws.length - (w.n + w.hs.length)), L.drop 40⟩ := by
    rw [← hA, ← hB]
    simp only [Nm.tree, sl, List.map_take, List.map_drop]
  rw [tr] at ls
  refine ⟨_, d1, fn_ret (b := b_law_names) rfl ((b_nx s1).trans ((b_nx s2).trans ((b_nx s3).trans (b_ret (s_ret ls))))) (by obtain ⟨ts1, rfl⟩ := dg_shape g1; obtain ⟨ts0, rfl⟩ := dg_shape hd; rfl) cal, g1, ⟨?_, ?_, ?_, ?_, ?_, fun s h => mem s (List.mem_of_mem_take h), fun s h => mem s (List.mem_of_mem_drop (List.mem_of_mem_take h)), fun s h => mem s (List.mem_of_mem_drop (List.mem_of_mem_take h)), fun s h => mem s (List.mem_of_mem_drop h)⟩⟩
  · show (L.take w.n).length = w.n
    rw [List.length_take]; omega
  · show ((L.drop w.n).take (w.n + w.hs.length - w.n)).length = w.hs.length
    rw [List.length_take, List.length_drop]; omega
  · show ((L.drop (w.n + w.hs.length)).take (w.n + w.hs.length + w.ws.length - (w.n + w.hs.length))).length = w.ws.length
    rw [List.length_take, List.length_drop]; omega
  · show (L.drop 40).length = 10
    rw [List.length_drop]; omega
  · show ((L.drop (w.n + w.hs.length)).take (w.n + w.hs.length + w.ws.length - (w.n + w.hs.length))).Nodup
    exact (nd.sublist (List.drop_sublist _ _)).sublist (List.take_sublist _ _)
end K81
set_option Elab.async false
set_option linter.all false
set_option maxRecDepth 100000
set_option maxHeartbeats 4000000
/-! k81: what can be shown; patterns, bits. -/
namespace Pv
open PySem L2
/-- a tree that stays as it is and whose text is short -/
structure Gd2 (k n : Nat) (t : T) : Prop where
  im : t.imm = true
  lay : PyData.canLay0 t.toD = true
  sh : t.toD.showable = true
  dp : PyData.depth t.toD ≤ k
  ln : t.toD.shown.length ≤ n
  tx : PyData.strOk t.toD.shown = true
theorem gd_up {k n k' n' : Nat} {t : T} (h : Gd2 k n t) (hk : k ≤ k') (hn : n ≤ n') : Gd2 k' n' t := ⟨h.im, h.lay, h.sh, Nat.le_trans h.dp hk, Nat.le_trans h.ln hn, h.tx⟩
theorem str_len_app (x y : Str) : (x ++ y).length = x.length + y.length := addS_len x y
/-- the length of texts put together -/
theorem join_len (sep : Str) (n : Nat) : ∀ (l : List Str), (∀ s ∈ l, s.length ≤ n) → (Str.join sep l).length ≤ l.length * (n + sep.length)
  | [], _ => by show (Str.empty).length ≤ _; exact Nat.zero_le _
  | [x], h => by
    show x.length ≤ _
    have := h x List.mem_cons_self
    simp only [List.length_cons, List.length_nil]; omega
  | x :: y :: l, h => by
    show (x ++ sep ++ Str.join sep (y :: l)).length ≤ _
    have h1 := h x List.mem_cons_self
    have h2 := join_len sep n (y :: l) fun s hs => h s (List.mem_cons_of_mem _ hs)
    rw [str_len_app, str_len_app]
    simp only [List.length_cons] at h2 ⊢
    rw [Nat.add_mul (l.length + 1) 1, Nat.one_mul]
    omega
theorem strOk_app {x y : Str} (hx : PyData.strOk x = true) (hy : PyData.strOk y = true) : PyData.strOk (x ++ y) = true := by
  unfold PyData.strOk at *
  rw [← Array.all_toList] at *
  show ((x.cps ++ y.cps).toList.all _) = true
  rw [Array.toList_append, List.all_append, hx, hy]; rfl
theorem strOk_join {sep : Str} (hs : PyData.strOk sep = true) : ∀ (l : List Str), (∀ s ∈ l, PyData.strOk s = true) → PyData.strOk (Str.join sep l) = true
  | [], _ => by show PyData.strOk Str.empty = true; decide +kernel
  | [x], h => h x List.mem_cons_self
  | x :: y :: l, h => by
    show PyData.strOk (x ++ sep ++ Str.join sep (y :: l)) = true
    exact strOk_app (strOk_app (h x List.mem_cons_self) hs) (strOk_join hs (y :: l) fun s hz => h s (List.mem_cons_of_mem _ hz))
theorem shows_all {k n : Nat} : ∀ {ts : List T}, (∀ t ∈ ts, Gd2 k n t) → PyData.showableAll (T.toDs ts) = true ∧ (PyData.shownAll (T.toDs ts)).length = ts.length ∧ ∀ s ∈ PyData.shownAll (T.toDs ts), s.length ≤ n ∧ PyData.strOk s = true
  | [], _ => ⟨rfl, rfl, fun s h => by cases h⟩
  | t :: ts, h => by
    have a := h t List.mem_cons_self
    obtain ⟨b1, b2, b3⟩ := shows_all (ts := ts) fun u hu => h u (List.mem_cons_of_mem _ hu)
    refine ⟨?_, ?_, fun s hs => ?_⟩
    · show (t.toD.showable && PyData.showableAll (T.toDs ts)) = true
      rw [a.sh, b1]; rfl
    · show (t.toD.shown :: PyData.shownAll (T.toDs ts)).length = _
      rw [List.length_cons, b2]; rfl
    · have hs' : s ∈ t.toD.shown :: PyData.shownAll (T.toDs ts) := hs
      rcases List.mem_cons.mp hs' with rfl | hs'
      · exact ⟨a.ln, a.tx⟩
      · exact b3 s hs'
theorem gd_tup {k n : Nat} {ts : List T} (h : ∀ t ∈ ts, Gd2 k n t) : Gd2 (k + 1) (ts.length * (n + 2) + 3) (.tup ts) := by
  obtain ⟨s1, s2, s3⟩ := shows_all h
  have l := lay_tup (k := k) fun t ht => (⟨(h t ht).lay, (h t ht).dp⟩ : Lay k t)
  refine ⟨imms_of fun t ht => (h t ht).im, l.1, s1, l.2, ?_, ?_⟩
  rotate_left
  · show PyData.strOk (tupleText (PyData.shownAll (T.toDs ts))) = true
    unfold tupleText
    refine strOk_app (strOk_app (by decide +kernel) (strOk_join (by decide +kernel) _ fun s hs => (s3 s hs).2)) ?_
    split <;> decide +kernel
  show (tupleText (PyData.shownAll (T.toDs ts))).length ≤ _
  have j := join_len (", " : Str) n _ fun s hs => (s3 s hs).1
  rw [s2] at j
  unfold tupleText
  rw [str_len_app, str_len_app]
  have e1 : (("(" : Str)).length = 1 := by decide +kernel
  have e2 : ((", " : Str)).length = 2 := by decide +kernel
  rw [e2] at j
  rw [e1]
  have e3 : (Str.ofString (if ((PyData.shownAll (T.toDs ts)).length == 1) = true then ",)" else ")")).length ≤ 2 := by
    split <;> decide +kernel
  omega
/-- a short text -/
def Tx (s : Str) : Prop := s.length ≤ 12 ∧ PyData.strOk s = true ∧ PyData.strOk (reprText s) = true
def txB (s : Str) : Bool := decide (s.length ≤ 12) && (PyData.strOk s && PyData.strOk (reprText s))
theorem tx_of {s : Str} (h : txB s = true) : Tx s := by
  unfold txB at h
  rw [Bool.and_eq_true, Bool.and_eq_true, decide_eq_true_eq] at h
  exact h
theorem strOk_mem {s : Str} (h : PyData.strOk s = true) : ∀ c ∈ s.cps.toList, c < 0x110000 := by
  unfold PyData.strOk at h
  rw [← Array.all_toList, List.all_eq_true] at h
  exact fun c hc => of_decide_eq_true (h c hc)
theorem gd_str {s : Str} (h : Tx s) : Gd2 0 122 (.str s) := by
  refine ⟨rfl, h.2.1, rfl, Nat.zero_le _, ?_, h.2.2⟩
  show (reprText s).length ≤ 122
  have := StrLaws.reprText_len s fun c hc => Nat.lt_trans (strOk_mem h.2.1 c hc) (by decide)
  have := h.1
  omega
theorem int_shown : ∀ i : Fin 401, (PyData.int (i.val : Int)).shown.length ≤ 3 ∧ PyData.strOk (PyData.int (i.val : Int)).shown = true := by decide +kernel
theorem gd_int {i : Nat} (h : i ≤ 400) : Gd2 0 122 (.int i) := by
  refine ⟨rfl, rfl, ?_, Nat.zero_le _, ?_, (int_shown ⟨i, by omega⟩).2⟩
  · show decide ((i : Int).natAbs.log2 < 1920) = true
    refine decide_eq_true ?_
    rw [Int.natAbs_natCast]
    by_cases h0 : i = 0
    · subst h0; decide
    · have : i.log2 < 9 := (Nat.log2_lt h0).2 (by omega)
      omega
  · exact Nat.le_trans (int_shown ⟨i, by omega⟩).1 (by decide)
end Pv
namespace K81
open PySem L2 Pv
theorem pool_all : (poolS.all txB) = true := by decide +kernel
theorem pool_tx : ∀ s ∈ poolS, Tx s := fun s h => tx_of (List.all_eq_true.mp pool_all s h)
def strB (c v dat : Nat) : FR → Bool
  | .ok (.str s) [some (.int a), some (.int b), some (.int e)] => txB s && (decide (a = c) && (decide (b = v) && decide (e = dat)))
  | _ => false
theorem strB_of {c v dat : Nat} {x : FR} (h : strB c v dat x = true) : ∃ s, x = .ok (.str s) [some (.int c), some (.int v), some (.int dat)] ∧ Tx s := by
  unfold strB at h
  split at h
  · rename_i s a b e
    simp only [Bool.and_eq_true, decide_eq_true_eq] at h
    obtain ⟨h1, rfl, rfl, rfl⟩ := h
    exact ⟨s, rfl, tx_of h1⟩
  · cases h
def patB (c v dat : Nat) : Bool := strB c v dat (φ_law_pattern [.int c, .int v, .int dat])
theorem pat_all : ((List.range 4).all fun c => (List.range 4).all fun v => patB c v 1 && patB c v 2) = true := by decide +kernel
theorem pat_of {c v dat : Nat} (h : patB c v dat = true) : ∃ s, φ_law_pattern [.int c, .int v, .int dat] = .ok (.str s) [some (.int c), some (.int v), some (.int dat)] ∧ Tx s := strB_of h
theorem pat_ok {c v dat : Nat} (hc : c < 4) (hv : v < 4) (hb : dat = 1 ∨ dat = 2) : ∃ s, φ_law_pattern [.int c, .int v, .int dat] = .ok (.str s) [some (.int c), some (.int v), some (.int dat)] ∧ Tx s := by
  have h := List.all_eq_true.mp (List.all_eq_true.mp pat_all c (List.mem_range.mpr hc)) v (List.mem_range.mpr hv)
  rw [Bool.and_eq_true] at h
  obtain ⟨h1, h2⟩ := h
  rcases hb with rfl | rfl
  · exact pat_of h1
  · exact pat_of h2
theorem bits_ok {n av : Nat} (hn : n ≤ 4) (h : Av n av) : ∃ bs : List Nat, φ_law_bits [.int av] = .ok (.lst (bs.map nI)) [some (.int av)] ∧ bs.length ≤ 1 ∧ ∀ b ∈ bs, b < n := by
  rcases h with rfl | ⟨k, hk, rfl⟩
  · exact ⟨[], by kernel_rfl, by simp, fun b h => by cases h⟩
  · refine ⟨[k], ?_, by simp, fun b h => by have : b = k := by simpa using h
                                            omega⟩
    obtain rfl | rfl | rfl | rfl : k = 0 ∨ k = 1 ∨ k = 2 ∨ k = 3 := by omega
    all_goals kernel_rfl
end K81
set_option Elab.async false
set_option linter.all false
set_option maxRecDepth 100000
set_option maxHeartbeats 4000000
/-! k81: the items of a tree. -/
namespace Pv
open PySem L2
section
variable {i j k : Nat} {ρ : Rho} {rows ts : List T} {u : T} {b : Ex}
/-- x[j], a list in a list in a slot -/
theorem p_ix (h : ρ[i]? = some (some (.lst rows))) (hj : rows[j]? = some u) (im : u.imm = false) : (eIx (eVar i) (eInt (j : Int))).sem ρ = .ok (.p i [j]) ρ false := by
  obtain ⟨hlt, _⟩ := List.getElem?_eq_some_iff.mp hj
  have th : O.there ρ (.p i []) = true := by simp only [O.there, h]
  refine e_ix (τ1 := false) (τ2 := false) (o2 := .v (.int j)) (v_lst h) rfl (by simp [th, O.deep]) rfl (x := .lst rows) (y := .int j) (by simp only [getO, h, T.at]) rfl ?_
  simp only [ixO, ixN_nat hlt, hj, itemO, im, Bool.false_eq_true, if_false]
  rfl
theorem p_get (h : ρ[i]? = some (some (.lst rows))) (hj : rows[j]? = some u) : getO ρ (.p i [j]) = some u := by
  simp only [getO, h, T.at, T.items, hj]
/-- x[j][e] -/
theorem pp_ix (h : ρ[i]? = some (some (.lst rows))) (hj : rows[j]? = some (.lst ts)) (hb : b.sem ρ = .ok (.v (.int k)) ρ false) (hk : ts[k]? = some u) (im : u.imm = true) : (eIx (eIx (eVar i) (eInt (j : Int))) b).sem ρ = .ok (.v u) ρ false := by
  obtain ⟨hlt, _⟩ := List.getElem?_eq_some_iff.mp hk
  refine e_ix (τ1 := false) (τ2 := false) (p_ix h hj rfl) hb rfl rfl (x := .lst ts) (y := .int k) (p_get h hj) rfl ?_
  simp only [ixO, ixN_nat hlt, hk, itemO, im, if_true]
theorem pp_str {l : List Str} (h : ρ[i]? = some (some (.lst rows))) (hj : rows[j]? = some (.lst (l.map T.str))) (hb : b.sem ρ = .ok (.v (.int k)) ρ false) (hk : k < l.length) : (eIx (eIx (eVar i) (eInt (j : Int))) b).sem ρ = .ok (.v (.str l[k])) ρ false :=
  pp_ix h hj hb (by rw [List.getElem?_map, List.getElem?_eq_getElem hk]; rfl) rfl
end
end Pv
namespace K81
open PySem L2 Pv
abbrev rI (w x : T) (k : Nat) (wi wh via av se : Option T) : Rho := [some w, some x, some (.int k), wi, wh, via, none, av, se]
section
variable {w : Wo} {x : Nm}
def patE (i j : Int) : Ex := eIf (bCmp .Eq (eIx (eVar 3) (eInt i)) (eInt 0)) (eStr "") (eCall F_law_pattern (xs [(eIx (eVar 3) (eInt i)), (eIx (eVar 3) (eInt j)), (eIx (eVar 0) (eInt 0))]))
theorem patE_ok (hb : w.dat = 1 ∨ w.dat = 2) {i j c v : Nat} {ts : List T} (im : T.imms ts = true) (hi : ts[i]? = some (.int c)) (hj : ts[j]? = some (.int v)) (hc : c < 4) (hv : v < 4) (k : Nat) (wh via av se : Option T) : ∃ s : Str, (patE i j).sem (rI w.tree x.tree k (some (.tup ts)) wh via av se) = .ok (.v (.str s)) (rI w.tree x.tree k (some (.tup ts)) wh via av se) false ∧ Tx s := by
  let ρ : Rho := rI w.tree x.tree k (some (.tup ts)) wh via av se
  have r1 : (eIx (eVar 3) (eInt i)).sem ρ = .ok (.v (.int c)) ρ false := ix_var rfl im hi
  have r2 : (eIx (eVar 3) (eInt j)).sem ρ = .ok (.v (.int v)) ρ false := ix_var rfl im hj
  have r0 : (eIx (eVar 0) (eInt 0)).sem ρ = .ok (.v (.int w.dat)) ρ false := by kernel_rfl
  have cc : (bCmp .Eq (eIx (eVar 3) (eInt i)) (eInt 0)).sem ρ = .ok ((c : Int) == 0) ρ false := b_cmp (τ1 := false) (τ2 := false) (o2 := .v (.int 0)) (y := .int 0) r1 rfl rfl rfl rfl rfl rfl
  cases e : ((c : Int) == 0) with
  | true => rw [e] at cc; exact ⟨"", e_if (τ := false) (τ2 := false) cc rfl, tx_of (by decide +kernel)⟩
  | false =>
    rw [e] at cc
    obtain ⟨s, q1, q2⟩ := pat_ok hc hv hb
    exact ⟨s, e_if (τ := false) (τ2 := false) cc (e_callF (F := F_law_pattern) (φ := φ_law_pattern) rfl (ρ1 := ρ) (τ := false) (os := [.v (.int c), .v (.int v), .v (.int w.dat)]) (ts := [.int c, .int v, .int w.dat]) (evc (τ1 := false) (τ2 := false) r1 (evc (τ1 := false) (τ2 := false) r2 (evc (τ1 := false) (τ2 := false) r0 evn))) rfl rfl rfl q1 rfl), q2⟩
def nmF (l : List Str) : T → T
  | .int k => .str (l.getD k.toNat "")
  | _ => .non
theorem nmF_int {l : List Str} {k : Nat} (h : k < l.length) : nmF l (.int k) = .str l[k] := by
  show T.str (l.getD (k : Int).toNat "") = _
  rw [Int.toNat_natCast, List.getD_eq_getElem?_getD, List.getElem?_eq_getElem h]; rfl
theorem nm_gd {l : List Str} (hl : ∀ s ∈ l, s ∈ poolS) {bs : List Nat} (hb : ∀ b ∈ bs, b < l.length) : ∀ t ∈ (bs.map nI).map (nmF l), Gd2 0 122 t := fun t ht => by
  obtain ⟨u, hu, rfl⟩ := List.mem_map.mp ht
  obtain ⟨b, hb', rfl⟩ := List.mem_map.mp hu
  rw [nmF_int (hb b hb')]
  exact gd_str (pool_tx _ (hl _ (List.getElem_mem _)))
def selL (it : Ix) : Lc := ⟨[6], (gN 6), it, none, (eIx (eIx (eVar 1) (eInt 0)) (eVar 6))⟩
/-- names of switches -/
theorem sel_ok (ho : x.Ok w) {it : Ix} {bs : List Nat} (hb : ∀ b ∈ bs, b < w.n) (hl : bs.length ≤ 100) {k : Nat} {wi wh via av se : Option T} {τ wf : Bool} (hi : it.sem (rI w.tree x.tree k wi wh via av se) = .ok (bs.map nI) (rI w.tree x.tree k wi wh via av se) τ wf) :
    (eTuple (eLc (selL it))).sem (rI w.tree x.tree k wi wh via av se) = .ok (.v (.tup ((bs.map nI).map (nmF x.a)))) (rI w.tree x.tree k wi wh via av se) τ := by
  have hb' : ∀ b ∈ bs, b < x.a.length := fun b h => by rw [ho.a]; exact hb b h
  have key := lc_map (set := (gN 6).sem) (tt := (selL it).tt) (te := (selL it).el.sem) (vs := [6]) (ρ := rI w.tree x.tree k wi wh via av se) (f := nmF x.a) (bs.map nI) []
    (fun t ht => by
      obtain ⟨b, hb1, rfl⟩ := List.mem_map.mp ht
      let ρ1 : Rho := [some w.tree, some x.tree, some (.int k), wi, wh, via, some (.int b), av, se]
      refine ⟨ρ1, ρ1, rfl, rfl, ?_, rfl⟩
      rw [nmF_int (hb' b hb1)]
      exact pp_str (i := 1) (j := 0) (l := x.a) rfl rfl (v_imm rfl rfl) (hb' b hb1)) (by rw [List.length_map, sizeLine_eq]; simp only [List.length_nil]; omega)
  have := e_tuple (e_lc (l := selL it) (τ2 := false) hi rfl key (.inr rfl)) rfl rfl (imms_of fun t ht => (nm_gd ho.pa hb' t (by simpa using ht)).im)
  rw [List.nil_append, Bool.or_false] at this
  exact this
/-- an item of a list of names and more -/
abbrev itT (p : Str × List T) : T := .tup (.str p.1 :: p.2)
structure ItOk (p : Str × List T) : Prop where
  tx : Tx p.1
  gd : Gd2 2 3000 (itT p)
theorem it_ok {s : Str} (hs : Tx s) {ts : List T} (h : ∀ t ∈ ts, Gd2 1 260 t) (hl : ts.length ≤ 10) : ItOk (s, ts) := by
  refine ⟨hs, gd_up (gd_tup (k := 1) (n := 260) (ts := .str s :: ts) fun t ht => ?_) (by omega) (by simp only [List.length_cons]; omega)⟩
  rcases List.mem_cons.mp ht with rfl | ht
  · exact gd_up (gd_str hs) (by omega) (by omega)
  · exact h t ht
theorem g1s {s : Str} (h : Tx s) : Gd2 1 260 (.str s) := gd_up (gd_str h) (by omega) (by omega)
theorem g1i {i : Nat} (h : i ≤ 400) : Gd2 1 260 (.int i) := gd_up (gd_int h) (by omega) (by omega)
theorem g1t {ts : List T} (h : ∀ t ∈ ts, Gd2 0 122 t) (hl : ts.length ≤ 1) : Gd2 1 260 (.tup ts) := gd_up (gd_tup h) (by omega) (by omega)
def wiR0 : Ex := eTup (xs [(eIx (eIx (eVar 1) (eInt 2)) (eVar 2)), (eIx (eIx (eVar 1) (eInt 1)) (eIx (eVar 3) (eInt 0))), (eStr ""), (eVar 4), (eTup (xs [])), (eTup (xs [])), (eStr ""), (eInt 0)])
def wiR1 : Ex := eTup (xs [(eIx (eIx (eVar 1) (eInt 2)) (eVar 2)), (eIx (eIx (eVar 1) (eInt 1)) (eIx (eVar 3) (eInt 0))), (eIx (eIx (eVar 1) (eInt 1)) (eIx (eVar 3) (eInt 1))), (eVar 4), (eVar 5), (eVar 7), (eVar 8), (eIx (eVar 3) (eInt 8))])
theorem wish_item_ok (kw : w.Ok) (ho : x.Ok w) {k : Nat} (hk : k < w.ws.length) : ∃ p : Str × List T, φ_law_wish_item [w.tree, x.tree, .int k] = .ok (itT p) [some w.tree, some x.tree, some (.int k)] ∧ ItOk p ∧ x.c[k]? = some p.1 := by
  have gw : (w.ws.map wiT)[k]? = some (wiT w.ws[k]) := by rw [List.getElem?_map, List.getElem?_eq_getElem hk]; rfl
  have im := wi_im w.ws[k]
  have okw := kw.ws _ (List.getElem_mem hk)
  generalize hwi : w.ws[k] = wi at *
  have s1 : (sSet (gN 3) (eIx (eIx (eVar 0) (eInt 5)) (eVar 2))).sem (rI w.tree x.tree k none none none none none) = .nx (rI w.tree x.tree k (some (wiT wi)) none none none none) :=
    s_set (pp_ix (i := 0) (j := 5) (ts := w.ws.map wiT) rfl rfl (v_imm rfl rfl) gw im) rfl
  obtain ⟨s2, q2, t2⟩ := patE_ok (x := x) kw.dat (i := 2) (j := 3) (c := wi.c) (v := wi.v) im rfl rfl okw.c okw.v k none none none none
  have s2' : (sSet (gN 4) (patE 2 3)).sem (rI w.tree x.tree k (some (wiT wi)) none none none none) = .nx (rI w.tree x.tree k (some (wiT wi)) (some (.str s2)) none none none) := s_set q2 rfl
  have hc : k < x.c.length := by rw [ho.c]; exact hk
  have hh : wi.h < x.b.length := by rw [ho.b]; exact okw.h
  have gc : ∀ via av se, (eIx (eIx (eVar 1) (eInt 2)) (eVar 2)).sem (rI w.tree x.tree k (some (wiT wi)) (some (.str s2)) via av se) = .ok (.v (.str x.c[k])) (rI w.tree x.tree k (some (wiT wi)) (some (.str s2)) via av se) false := fun via av se =>
    pp_str (i := 1) (j := 2) (l := x.c) rfl rfl (v_imm rfl rfl) hc
  have gh : ∀ via av se, (eIx (eIx (eVar 1) (eInt 1)) (eIx (eVar 3) (eInt 0))).sem (rI w.tree x.tree k (some (wiT wi)) (some (.str s2)) via av se) = .ok (.v (.str x.b[wi.h])) (rI w.tree x.tree k (some (wiT wi)) (some (.str s2)) via av se) false := fun via av se =>
    pp_str (i := 1) (j := 1) (l := x.b) rfl rfl (ix_var (k := 0) rfl im rfl) hh
  have tc : Tx x.c[k] := pool_tx _ (ho.pc _ (List.getElem_mem hc))
  have th : Tx x.b[wi.h] := pool_tx _ (ho.pb _ (List.getElem_mem hh))
  have te : Tx "" := tx_of (by decide +kernel)
  have cIs : (bCmp .Is (eIx (eVar 3) (eInt 1)) eNon).sem (rI w.tree x.tree k (some (wiT wi)) (some (.str s2)) none none none) = .ok (isNon (tgT wi.t)) (rI w.tree x.tree k (some (wiT wi)) (some (.str s2)) none none none) false :=
    b_cmp (τ1 := false) (τ2 := false) (o1 := .v (tgT wi.t)) (o2 := .v .non) (x := tgT wi.t) (y := .non) (ix_var (k := 1) rfl im rfl) rfl rfl rfl rfl rfl rfl
  have bk : ∀ {via av se : Option T}, back [w.tree, x.tree, .int k] 0 (rI w.tree x.tree k (some (wiT wi)) (some (.str s2)) via av se) = [some w.tree, some x.tree, some (.int k)] := rfl
  cases ht : wi.t with
  | none =>
    rw [ht] at cIs
    have rt : wiR0.sem (rI w.tree x.tree k (some (wiT wi)) (some (.str s2)) none none none) = .ok (.v (.tup [.str x.c[k], .str x.b[wi.h], .str "", .str s2, .tup [], .tup [], .str "", .int 0])) (rI w.tree x.tree k (some (wiT wi)) (some (.str s2)) none none none) false :=
      e_tup (ts := [.str x.c[k], .str x.b[wi.h], .str "", .str s2, .tup [], .tup [], .str "", .int 0]) (evc (τ1 := false) (τ2 := false) (gc _ _ _) (evc (τ1 := false) (τ2 := false) (gh _ _ _) (by kernel_rfl))) (show 8 ≤ 10000 by decide)
    refine ⟨(x.c[k], [.str x.b[wi.h], .str "", .str s2, .tup [], .tup [], .str "", .int 0]), fn_ret (b := b_law_wish_item) rfl ((b_nx s1).trans ((b_nx s2').trans (b_ret ((i_t cIs).trans (b_ret (s_ret rt)))))) bk rfl, it_ok tc (fun t ht => ?_) (by simp), List.getElem?_eq_getElem hc⟩
    simp only [List.mem_cons, List.not_mem_nil, or_false] at ht
    rcases ht with rfl | rfl | rfl | rfl | rfl | rfl | rfl
    · exact g1s th
    · exact g1s te
    · exact g1s t2
    · exact g1t (fun t h => by cases h) (by simp)
    · exact g1t (fun t h => by cases h) (by simp)
    · exact g1s te
    · exact g1i (i := 0) (by decide)
  | some tg =>
    rw [ht] at cIs
    have htg : tg < x.b.length := by rw [ho.b]; exact okw.t tg ht
    have i4 : (iSeq (eIx (eVar 3) (eInt 4))).sem (rI w.tree x.tree k (some (wiT wi)) (some (.str s2)) none none none) = .ok (wi.via.map nI) (rI w.tree x.tree k (some (wiT wi)) (some (.str s2)) none none none) false false :=
      i_seqT (τ := false) (o := .v (.tup (wi.via.map nI))) (ix_var (k := 4) rfl im rfl) rfl (via_im _)
    have vl := okw.vl
    have s5 : (sSet (gN 5) (eTuple (eLc (selL (iSeq (eIx (eVar 3) (eInt 4))))))).sem (rI w.tree x.tree k (some (wiT wi)) (some (.str s2)) none none none) = .nx (rI w.tree x.tree k (some (wiT wi)) (some (.str s2)) (some (.tup ((wi.via.map nI).map (nmF x.a)))) none none) := s_set (sel_ok ho okw.vn (by omega) i4) rfl
    obtain ⟨bs, p1, p2, p3⟩ := bits_ok kw.n4 okw.av
    have cb : (eCall F_law_bits (xs [(eIx (eVar 3) (eInt 5))])).sem (rI w.tree x.tree k (some (wiT wi)) (some (.str s2)) (some (.tup ((wi.via.map nI).map (nmF x.a)))) none none) = .ok (.v (.lst (bs.map nI))) (rI w.tree x.tree k (some (wiT wi)) (some (.str s2)) (some (.tup ((wi.via.map nI).map (nmF x.a)))) none none) false :=
      e_callF (F := F_law_bits) (φ := φ_law_bits) rfl (ρ1 := rI w.tree x.tree k (some (wiT wi)) (some (.str s2)) (some (.tup ((wi.via.map nI).map (nmF x.a)))) none none) (τ := false) (os := [.v (.int wi.av)]) (ts := [.int wi.av]) (evc (τ1 := false) (τ2 := false) (ix_var (k := 5) rfl im rfl) evn) rfl rfl rfl p1 rfl
    have i6 := i_seqL (τ := false) cb rfl (via_im bs)
    have s6 : (sSet (gN 7) (eTuple (eLc (selL (iSeq (eCall F_law_bits (xs [(eIx (eVar 3) (eInt 5))]))))))).sem (rI w.tree x.tree k (some (wiT wi)) (some (.str s2)) (some (.tup ((wi.via.map nI).map (nmF x.a)))) none none) = .nx (rI w.tree x.tree k (some (wiT wi)) (some (.str s2)) (some (.tup ((wi.via.map nI).map (nmF x.a)))) (some (.tup ((bs.map nI).map (nmF x.a)))) none) := s_set (sel_ok ho p3 (by omega) i6) rfl
    obtain ⟨s7, q7, t7⟩ := patE_ok (x := x) kw.dat (i := 6) (j := 7) (c := wi.a) (v := wi.b) im rfl rfl okw.a okw.b k (some (.str s2)) (some (.tup ((wi.via.map nI).map (nmF x.a)))) (some (.tup ((bs.map nI).map (nmF x.a)))) none
    have s7' : (sSet (gN 8) (patE 6 7)).sem (rI w.tree x.tree k (some (wiT wi)) (some (.str s2)) (some (.tup ((wi.via.map nI).map (nmF x.a)))) (some (.tup ((bs.map nI).map (nmF x.a)))) none) = .nx (rI w.tree x.tree k (some (wiT wi)) (some (.str s2)) (some (.tup ((wi.via.map nI).map (nmF x.a)))) (some (.tup ((bs.map nI).map (nmF x.a)))) (some (.str s7))) := s_set q7 rfl
    have ha : ∀ {cs : List Nat}, (∀ b ∈ cs, b < w.n) → ∀ b ∈ cs, b < x.a.length := fun h b hb => by rw [ho.a]; exact h b hb
    have gv := nm_gd ho.pa (ha okw.vn)
    have gb := nm_gd ho.pa (ha p3)
    have iv : T.imms ((wi.via.map nI).map (nmF x.a)) = true := imms_of fun t h => (gv t h).im
    have ib : T.imms ((bs.map nI).map (nmF x.a)) = true := imms_of fun t h => (gb t h).im
    let ρ : Rho := rI w.tree x.tree k (some (wiT wi)) (some (.str s2)) (some (.tup ((wi.via.map nI).map (nmF x.a)))) (some (.tup ((bs.map nI).map (nmF x.a)))) (some (.str s7))
    have gt : (eIx (eIx (eVar 1) (eInt 1)) (eIx (eVar 3) (eInt 1))).sem ρ = .ok (.v (.str x.b[tg])) ρ false := pp_str (i := 1) (j := 1) (l := x.b) rfl rfl (ix_var (k := 1) rfl im (by rw [ht]; rfl)) htg
    have g8 : (eIx (eVar 3) (eInt 8)).sem ρ = .ok (.v (.int wi.sp)) ρ false := ix_var (k := 8) rfl im rfl
    have rt : wiR1.sem ρ = .ok (.v (.tup [.str x.c[k], .str x.b[wi.h], .str x.b[tg], .str s2, .tup ((wi.via.map nI).map (nmF x.a)), .tup ((bs.map nI).map (nmF x.a)), .str s7, .int wi.sp])) ρ false :=
      e_tup (ts := [.str x.c[k], .str x.b[wi.h], .str x.b[tg], .str s2, .tup ((wi.via.map nI).map (nmF x.a)), .tup ((bs.map nI).map (nmF x.a)), .str s7, .int wi.sp])
        (evc (τ1 := false) (τ2 := false) (gc _ _ _) (evc (τ1 := false) (τ2 := false) (gh _ _ _) (evc (τ1 := false) (τ2 := false) gt (evc (τ1 := false) (τ2 := false) (t := .str s2) (v_imm rfl rfl) (evc (τ1 := false) (τ2 := false) (t := .tup ((wi.via.map nI).map (nmF x.a))) (v_imm rfl iv) (evc (τ1 := false) (τ2 := false) (t := .tup ((bs.map nI).map (nmF x.a))) (v_imm rfl ib) (evc (τ1 := false) (τ2 := false) (t := .str s7) (v_imm rfl rfl) (evc (τ1 := false) (τ2 := false) g8 evn)))))))) (show 8 ≤ 10000 by decide)
    refine ⟨(x.c[k], [.str x.b[wi.h], .str x.b[tg], .str s2, .tup ((wi.via.map nI).map (nmF x.a)), .tup ((bs.map nI).map (nmF x.a)), .str s7, .int wi.sp]), fn_ret (b := b_law_wish_item) rfl ((b_nx s1).trans ((b_nx s2').trans ((b_nx ((i_f cIs).trans rfl)).trans ((b_nx s5).trans ((b_nx s6).trans ((b_nx s7').trans (b_ret (s_ret rt)))))))) bk rfl, it_ok tc (fun t ht => ?_) (by simp), List.getElem?_eq_getElem hc⟩
    simp only [List.mem_cons, List.not_mem_nil, or_false] at ht
    rcases ht with rfl | rfl | rfl | rfl | rfl | rfl | rfl
    · exact g1s th
    · exact g1s (pool_tx _ (ho.pb _ (List.getElem_mem htg)))
    · exact g1s t2
    · exact g1t gv (by rw [List.length_map, List.length_map]; exact vl)
    · exact g1t gb (by rw [List.length_map, List.length_map]; exact p2)
    · exact g1s t7
    · exact g1i (by have := okw.sp; omega)
end
end K81
set_option Elab.async false
set_option linter.all false
set_option maxRecDepth 100000
set_option maxHeartbeats 4000000
/-! k81: the tree. -/
namespace Pv
open PySem L2
/-- a comprehension that changes nothing in the slots, item by item; b: may its items say that something was touched -/
theorem lc_rel {set : T → Rho → Option Rho} {tt : Rho → RB} {te : Rho → R} {vs : List Nat} {ρ : Rho} (b : Bool) (Q : T → T → Prop) : ∀ (items acc : List T) (τ : Bool), (∀ t ∈ items, ∃ ρ1 ρ3 y τ3, set t ρ = some ρ1 ∧ tt ρ1 = .ok true ρ1 false ∧ te ρ1 = .ok (.v y) ρ3 τ3 ∧ (b = false → τ3 = false) ∧ wipeR ρ3 vs = ρ ∧ Q t y) → acc.length + items.length ≤ sizeLine →
    ∃ (acc' : List T) (τ' : Bool), lcF set tt te vs items acc ρ τ = .ok (acc ++ acc') ρ τ' ∧ (b = false → τ = false → τ' = false) ∧ acc'.length = items.length ∧ ∀ (i : Nat) (t y : T), items[i]? = some t → acc'[i]? = some y → Q t y
  | [], acc, τ, _, _ => ⟨[], τ, by rw [List.append_nil]; rfl, fun _ h => h, rfl, fun i t y h => by simp at h⟩
  | t :: ts, acc, τ, h, hl => by
    obtain ⟨ρ1, ρ3, y, τ3, h1, h2, h3, hb, h4, h5⟩ := h t List.mem_cons_self
    simp only [List.length_cons] at hl
    obtain ⟨acc', τ', e, eb, l, q⟩ := lc_rel (set := set) (tt := tt) (te := te) (vs := vs) (ρ := ρ) b Q ts (acc ++ [y]) (τ || (false || τ3)) (fun x hx => h x (List.mem_cons_of_mem _ hx)) (by rw [List.length_append]; simp; omega)
    refine ⟨y :: acc', τ', ?_, fun z z2 => eb z (by rw [z2, hb z]; rfl), by simp [l], fun i t' y' hi hy => ?_⟩
    · simp only [lcF, h1, h2, h3, if_true]
      rw [if_pos (by omega), h4, e]
      simp
    · cases i with
      | zero =>
        simp only [List.getElem?_cons_zero, Option.some.injEq] at hi hy
        subst hi hy
        exact h5
      | succ i => exact q i t' y' (by simpa using hi) (by simpa using hy)
theorem rangeL_get {m i : Nat} {t : T} (h : (rangeL 0 m)[i]? = some t) : t = .int i ∧ i < m := by
  unfold rangeL at h
  rw [List.getElem?_map] at h
  have hl : i < m := by
    rcases Nat.lt_or_ge i m with z | z
    · exact z
    · rw [List.getElem?_eq_none (by rw [List.length_range]; omega)] at h; cases h
  rw [List.getElem?_eq_getElem (by rw [List.length_range]; omega)] at h
  simp only [List.getElem_range, Option.map_some, Option.some.injEq] at h
  exact ⟨by rw [← h, Int.zero_add], hl⟩
end Pv
namespace K81
open PySem L2 Pv
abbrev rT (w x : T) (x2 x4 x6 x7 : Option T) : Rho := [some w, some x, x2, none, x4, none, x6, x7]
section
variable {w : Wo} {x : Nm}
theorem whole_at (k : Nat) (hk : k < w.n) : (List.replicate w.n (kd (whole w.dat)))[k]? = some (kd (whole w.dat)) := by
  rw [List.getElem?_eq_getElem (by rw [List.length_replicate]; exact hk), List.getElem_replicate]
def swR : Ex := eTup (xs [(eIx (eIx (eVar 1) (eInt 0)) (eVar 2)), (eIx (eIx (eVar 0) (eInt 7)) (eVar 2)), (eVar 9), (eVar 10), (eVar 5), (eVar 6)])
def swM : Bl := blk [sSet (gN 7) (eBin .Add (eIx (eVar 0) (eInt 0)) (eIx (eVar 0) (eInt 1))),
  sSet (gN 8) (eBin .Sub (eBin .LShift (eInt 1) (eVar 7)) (eInt 1)),
  sSet (gN 9) (eIf (bCmp .Eq (eVar 3) (eVar 8)) (eStr "") (eCall F_law_mask_text (xs [(eVar 3), (eVar 7)]))),
  sSet (gN 10) (eIf (bCmp .Eq (eVar 4) (eVar 8)) (eStr "") (eCall F_law_mask_text (xs [(eVar 4), (eVar 7)])))]
abbrev rS (w x : T) (k : Nat) (q : Int) (wd : Nat) : Rho := [some w, some x, some (.int k), some (.int q), some (.int q), some (.int 8), some (.int 0), some (.int wd), some (.int q), some (.str ""), some (.str "")]
theorem swM_ok (hb : w.dat = 1 ∨ w.dat = 2) (k : Nat) : swM.sem [some w.tree, some x.tree, some (.int k), some (.int (whole w.dat)), some (.int (whole w.dat)), some (.int 8), some (.int 0), none, none, none, none] = .nx (rS w.tree x.tree k (whole w.dat) (w.dat + 4)) := by
  obtain ⟨dat, n, ls, hs, ws, pol⟩ := w
  rcases hb with h | h
  · have h' : dat = 1 := h
    subst h'
    kernel_rfl
  · have h' : dat = 2 := h
    subst h'
    kernel_rfl
theorem switch_ok (kw : w.Ok) (ho : x.Ok w) {k : Nat} (hk : k < w.n) : ∃ t : T, φ_law_switch_item [w.tree, x.tree, .int k] = .ok t [some w.tree, some x.tree, some (.int k)] ∧ Gd2 2 3000 t := by
  have ha : k < x.a.length := by rw [ho.a]; exact hk
  have s1 : (sSet (gT [3, 4, 5, 6]) (eIx (eIx (eVar 0) (eInt 8)) (eVar 2))).sem [some w.tree, some x.tree, some (.int k), none, none, none, none, none, none, none, none] = .nx [some w.tree, some x.tree, some (.int k), some (.int (whole w.dat)), some (.int (whole w.dat)), some (.int 8), some (.int 0), none, none, none, none] :=
    s_set (pp_ix (i := 0) (j := 8) (ts := List.replicate w.n (kd (whole w.dat))) rfl rfl (v_imm rfl rfl) (whole_at k hk) rfl) rfl
  let ρ : Rho := rS w.tree x.tree k (whole w.dat) (w.dat + 4)
  have g1 : (eIx (eIx (eVar 1) (eInt 0)) (eVar 2)).sem ρ = .ok (.v (.str x.a[k])) ρ false := pp_str (i := 1) (j := 0) (l := x.a) rfl rfl (v_imm rfl rfl) ha
  have g2 : (eIx (eIx (eVar 0) (eInt 7)) (eVar 2)).sem ρ = .ok (.v (.int 400)) ρ false := pp_ix (i := 0) (j := 7) (ts := List.replicate w.n (.int 400)) rfl rfl (v_imm rfl rfl) (by rw [List.getElem?_eq_getElem (by rw [List.length_replicate]; exact hk), List.getElem_replicate]) rfl
  have rt : swR.sem ρ = .ok (.v (.tup [.str x.a[k], .int 400, .str "", .str "", .int 8, .int 0])) ρ false :=
    e_tup (ts := [.str x.a[k], .int 400, .str "", .str "", .int 8, .int 0]) (evc (τ1 := false) (τ2 := false) g1 (evc (τ1 := false) (τ2 := false) g2 (evc (τ1 := false) (τ2 := false) (t := .str "") (v_imm rfl rfl) (evc (τ1 := false) (τ2 := false) (t := .str "") (v_imm rfl rfl) (evc (τ1 := false) (τ2 := false) (t := .int 8) (v_imm rfl rfl) (evc (τ1 := false) (τ2 := false) (t := .int 0) (v_imm rfl rfl) evn)))))) (show 6 ≤ 10000 by decide)
  have te : Tx "" := tx_of (by decide +kernel)
  refine ⟨_, fn_ret (b := b_law_switch_item) rfl ((b_nx s1).trans ((blk_app (l1 := [sSet (gN 7) (eBin .Add (eIx (eVar 0) (eInt 0)) (eIx (eVar 0) (eInt 1))),
  sSet (gN 8) (eBin .Sub (eBin .LShift (eInt 1) (eVar 7)) (eInt 1)),
  sSet (gN 9) (eIf (bCmp .Eq (eVar 3) (eVar 8)) (eStr "") (eCall F_law_mask_text (xs [(eVar 3), (eVar 7)]))),
  sSet (gN 10) (eIf (bCmp .Eq (eVar 4) (eVar 8)) (eStr "") (eCall F_law_mask_text (xs [(eVar 4), (eVar 7)])))]) (l2 := [sRet swR]) (swM_ok (x := x) kw.dat k)).trans (b_ret (s_ret rt)))) rfl rfl, (it_ok (pool_tx _ (ho.pa _ (List.getElem_mem ha))) (ts := [.int 400, .str "", .str "", .int 8, .int 0]) (fun t ht => ?_) (by simp)).gd⟩
  simp only [List.mem_cons, List.not_mem_nil, or_false] at ht
  rcases ht with rfl | rfl | rfl | rfl | rfl
  · exact g1i (i := 400) (by decide)
  · exact g1s te
  · exact g1s te
  · exact g1i (i := 8) (by decide)
  · exact g1i (i := 0) (by decide)
theorem gd_row {ts : List T} (h : ∀ t ∈ ts, Gd2 2 3000 t) (hl : ts.length ≤ 12) : Gd2 3 40000 (.tup ts) := gd_up (gd_tup h) (by omega) (by omega)
theorem of_get {ts us : List T} {Q : T → T → Prop} {P : T → Prop} (hl : us.length = ts.length) (h : ∀ (i : Nat) (t y : T), ts[i]? = some t → us[i]? = some y → Q t y) (hq : ∀ t y, Q t y → P y) : ∀ y ∈ us, P y := fun y hy => by
  obtain ⟨i, hi, e⟩ := List.getElem_of_mem hy
  exact hq _ _ (h i ts[i] y (List.getElem?_eq_getElem (by omega)) (by rw [List.getElem?_eq_getElem hi, e]))
def trL1 : Lc := ⟨[3], (gN 3), (iRange1 (eIx (eVar 0) (eInt 2))), none, (eCall F_law_switch_item (xs [(eVar 0), (eVar 1), (eVar 3)]))⟩
theorem tree1 (kw : w.Ok) (ho : x.Ok w) : ∃ t : T, (sSet (gN 2) (eTuple (eLc trL1))).sem (rT w.tree x.tree none none none none) = .nx (rT w.tree x.tree (some t) none none none) ∧ Gd2 3 40000 t := by
  have n4 := kw.n4
  have rg : (iRange1 (eIx (eVar 0) (eInt 2))).sem (rT w.tree x.tree none none none none) = .ok (rangeL 0 w.n) (rT w.tree x.tree none none none none) false false := rg1 (τ := false) (j := w.n) (by kernel_rfl) (small62_of ⟨by omega, by omega⟩)
  obtain ⟨acc, τ, e, _, l, q⟩ := lc_rel (set := (gN 3).sem) (tt := trL1.tt) (te := trL1.el.sem) (vs := [3]) (ρ := rT w.tree x.tree none none none none) true (fun t y => Gd2 2 3000 y) (rangeL 0 w.n) [] false (fun t ht => by
    obtain ⟨i, hi⟩ := List.getElem?_of_mem ht
    obtain ⟨rfl, hk⟩ := rangeL_get hi
    obtain ⟨y, p1, p2⟩ := switch_ok kw ho hk
    let ρ1 : Rho := [some w.tree, some x.tree, none, some (.int i), none, none, none, none]
    exact ⟨ρ1, ρ1, y, true, rfl, rfl, e_callF (F := F_law_switch_item) (φ := φ_law_switch_item) rfl (ρ1 := ρ1) (τ := false) (os := [.p 0 [], .p 1 [], .v (.int i)]) (ts := [w.tree, x.tree, .int i]) (by kernel_rfl) (by kernel_rfl) (by kernel_rfl) (by kernel_rfl) p1 (by kernel_rfl), fun z => (by cases z), rfl, p2⟩) (by rw [rangeL_len, sizeLine_eq]; simp only [List.length_nil]; omega)
  rw [List.nil_append] at e
  have g := of_get l q fun t y h => h
  exact ⟨.tup acc, s_set (e_tuple (e_lc (l := trL1) rg rfl e (.inl rfl)) rfl rfl (imms_of fun t h => (g t h).im)) rfl, gd_row g (by rw [l, rangeL_len]; omega)⟩
def trL2 : Lc := ⟨[5], (gN 5), (iSeq (eIx (eVar 0) (eInt 3))), none, (eTup (xs [(eIx (eIx (eVar 1) (eInt 0)) (eIx (eVar 5) (eInt 0))), (eIx (eIx (eVar 1) (eInt 0)) (eIx (eVar 5) (eInt 1))), (eInt 1)]))⟩
theorem lks_imm (ls : List (Nat × Nat)) : T.imms (ls.map lk) = true := imms_of fun t ht => by obtain ⟨p, _, rfl⟩ := List.mem_map.mp ht; rfl
theorem tree2 (kw : w.Ok) (ho : x.Ok w) (x2 : T) : ∃ t : T, (sSet (gN 4) (eTuple (eLc trL2))).sem (rT w.tree x.tree (some x2) none none none) = .nx (rT w.tree x.tree (some x2) (some t) none none) ∧ Gd2 3 40000 t := by
  have l5 := kw.ls5
  have it : (iSeq (eIx (eVar 0) (eInt 3))).sem (rT w.tree x.tree (some x2) none none none) = .ok (w.ls.map lk) (rT w.tree x.tree (some x2) none none none) false true := i_seqL (τ := false) (o := .p 0 [3]) (p_ix (j := 3) rfl rfl rfl) rfl (lks_imm _)
  obtain ⟨acc, τ, e, eτ, l, q⟩ := lc_rel (set := (gN 5).sem) (tt := trL2.tt) (te := trL2.el.sem) (vs := [5]) (ρ := rT w.tree x.tree (some x2) none none none) false (fun t y => Gd2 2 3000 y) (w.ls.map lk) [] false (fun t ht => by
    obtain ⟨p, hp, rfl⟩ := List.mem_map.mp ht
    obtain ⟨h1, h2⟩ := kw.ls p hp
    rw [← ho.a] at h1 h2
    let ρ1 : Rho := [some w.tree, some x.tree, some x2, none, none, some (lk p), none, none]
    refine ⟨ρ1, ρ1, _, false, rfl, rfl, e_tup (ts := [.str x.a[p.1], .str x.a[p.2], .int 1]) (evc (τ1 := false) (τ2 := false) (pp_str (i := 1) (j := 0) (l := x.a) rfl rfl (ix_var (k := 0) (i := 5) (ts := [.int p.1, .int p.2]) rfl rfl rfl) h1) (evc (τ1 := false) (τ2 := false) (pp_str (i := 1) (j := 0) (l := x.a) rfl rfl (ix_var (k := 1) (i := 5) (ts := [.int p.1, .int p.2]) rfl rfl rfl) h2) (evc (τ1 := false) (τ2 := false) (t := .int 1) rfl evn))) (show 3 ≤ 10000 by decide), fun _ => rfl, rfl, (it_ok (pool_tx _ (ho.pa _ (List.getElem_mem h1))) (ts := [.str x.a[p.2], .int 1]) (fun t ht => ?_) (by simp)).gd⟩
    simp only [List.mem_cons, List.not_mem_nil, or_false] at ht
    rcases ht with rfl | rfl
    · exact g1s (pool_tx _ (ho.pa _ (List.getElem_mem h2)))
    · exact g1i (i := 1) (by decide)) (by rw [List.length_map, sizeLine_eq]; simp only [List.length_nil]; omega)
  rw [List.nil_append] at e
  have g := of_get l q fun t y h => h
  exact ⟨.tup acc, s_set (e_tuple (e_lc (l := trL2) it rfl e (.inr (eτ rfl rfl))) rfl rfl (imms_of fun t h => (g t h).im)) rfl, gd_row g (by rw [l, List.length_map]; omega)⟩
def trL3 : Lc := ⟨[3], (gN 3), (iRange1 (eLen (eIx (eVar 0) (eInt 4)))), none, (eTup (xs [(eIx (eIx (eVar 1) (eInt 1)) (eVar 3)), (eIx (eIx (eVar 1) (eInt 0)) (eIx (eIx (eIx (eVar 0) (eInt 4)) (eVar 3)) (eInt 0))), (eIx (eIx (eIx (eVar 0) (eInt 4)) (eVar 3)) (eInt 1)), (eIx (eIx (eIx (eVar 0) (eInt 4)) (eVar 3)) (eInt 2))]))⟩
theorem ten_tx {s : Str} (h : s ∈ tenants) : Tx s := by
  simp only [tenants, List.mem_cons, List.not_mem_nil, or_false] at h
  rcases h with rfl | rfl | rfl <;> exact tx_of (by decide +kernel)
theorem tree3 (kw : w.Ok) (ho : x.Ok w) (x2 x4 : T) : ∃ t : T, (sSet (gN 6) (eTuple (eLc trL3))).sem (rT w.tree x.tree (some x2) (some x4) none none) = .nx (rT w.tree x.tree (some x2) (some x4) (some t) none) ∧ Gd2 3 40000 t := by
  have h3 : w.hs.length ≤ 3 := by rcases kw.hs.len with z | z <;> omega
  have ln : (eLen (eIx (eVar 0) (eInt 4))).sem (rT w.tree x.tree (some x2) (some x4) none none) = .ok (.v (.int w.hs.length)) (rT w.tree x.tree (some x2) (some x4) none none) false := by
    have : (eLen (eIx (eVar 0) (eInt 4))).sem (rT w.tree x.tree (some x2) (some x4) none none) = .ok (.v (.int (w.hs.map K81.ho).length)) (rT w.tree x.tree (some x2) (some x4) none none) false := by kernel_rfl
    rw [List.length_map] at this
    exact this
  have rg := rg1 ln (small62_of ⟨by omega, by omega⟩)
  obtain ⟨acc, τ, e, eτ, l, q⟩ := lc_rel (set := (gN 3).sem) (tt := trL3.tt) (te := trL3.el.sem) (vs := [3]) (ρ := rT w.tree x.tree (some x2) (some x4) none none) false (fun t y => Gd2 2 3000 y) (rangeL 0 w.hs.length) [] false (fun t ht => by
    obtain ⟨i, hi⟩ := List.getElem?_of_mem ht
    obtain ⟨rfl, hk⟩ := rangeL_get hi
    let ρ1 : Rho := [some w.tree, some x.tree, some x2, some (.int i), some x4, none, none, none]
    have hb : i < x.b.length := by rw [ho.b]; exact hk
    have ha : (w.hs[i]).1 < x.a.length := by rw [ho.a]; exact kw.hs.home _ (List.getElem_mem hk)
    have gh : (eIx (eIx (eVar 0) (eInt 4)) (eVar 3)).sem ρ1 = .ok (.v (K81.ho w.hs[i])) ρ1 false := pp_ix (i := 0) (j := 4) (ts := w.hs.map K81.ho) rfl rfl (v_imm rfl rfl) (by rw [List.getElem?_map, List.getElem?_eq_getElem hk]; rfl) rfl
    have gk : ∀ (j : Nat) (u : T), [T.int (w.hs[i]).1, .str (w.hs[i]).2, .int 0][j]? = some u → u.imm = true → (eIx (eIx (eIx (eVar 0) (eInt 4)) (eVar 3)) (eInt (j : Int))).sem ρ1 = .ok (.v u) ρ1 false := fun j u hj im => ix_tup (τ1 := false) (τ2 := false) gh rfl hj im
    refine ⟨ρ1, ρ1, _, false, rfl, rfl, e_tup (ts := [.str x.b[i], .str (x.a[(w.hs[i]).1]), .str (w.hs[i]).2, .int 0]) (evc (τ1 := false) (τ2 := false) (pp_str (i := 1) (j := 1) (l := x.b) rfl rfl (v_imm rfl rfl) hb) (evc (τ1 := false) (τ2 := false) (pp_str (i := 1) (j := 0) (l := x.a) rfl rfl (gk 0 _ rfl rfl) ha) (evc (τ1 := false) (τ2 := false) (gk 1 _ rfl rfl) (evc (τ1 := false) (τ2 := false) (gk 2 _ rfl rfl) evn)))) (show 4 ≤ 10000 by decide), fun _ => rfl, rfl, (it_ok (pool_tx _ (ho.pb _ (List.getElem_mem hb))) (ts := [.str (x.a[(w.hs[i]).1]), .str (w.hs[i]).2, .int 0]) (fun t ht => ?_) (by simp)).gd⟩
    simp only [List.mem_cons, List.not_mem_nil, or_false] at ht
    rcases ht with rfl | rfl | rfl
    · exact g1s (pool_tx _ (ho.pa _ (List.getElem_mem ha)))
    · exact g1s (ten_tx (kw.hs.ten _ (List.getElem_mem hk)))
    · exact g1i (i := 0) (by decide)) (by rw [rangeL_len, sizeLine_eq]; simp only [List.length_nil]; omega)
  rw [List.nil_append] at e
  have g := of_get l q fun t y h => h
  exact ⟨.tup acc, s_set (e_tuple (e_lc (l := trL3) rg rfl e (.inl rfl)) rfl rfl (imms_of fun t h => (g t h).im)) rfl, gd_row g (by rw [l, rangeL_len]; omega)⟩
def trL4 : Lc := ⟨[3], (gN 3), (iRange1 (eLen (eIx (eVar 0) (eInt 5)))), none, (eCall F_law_wish_item (xs [(eVar 0), (eVar 1), (eVar 3)]))⟩
theorem its_of {P : Str × List T → Prop} : ∀ {acc : List T}, (∀ y ∈ acc, ∃ p, y = itT p ∧ P p) → ∃ ps : List (Str × List T), acc = ps.map itT ∧ ∀ p ∈ ps, P p
  | [], _ => ⟨[], rfl, fun p h => by cases h⟩
  | y :: acc, h => by
    obtain ⟨p, rfl, hp⟩ := h y List.mem_cons_self
    obtain ⟨ps, rfl, hps⟩ := its_of (acc := acc) fun u hu => h u (List.mem_cons_of_mem _ hu)
    exact ⟨p :: ps, rfl, fun q hq => by
      rcases List.mem_cons.mp hq with rfl | hq
      · exact hp
      · exact hps q hq⟩
theorem tree4 (kw : w.Ok) (ho : x.Ok w) (x2 x4 x6 : T) : ∃ ps : List (Str × List T), (sSet (gN 7) (eTuple (eLc trL4))).sem (rT w.tree x.tree (some x2) (some x4) (some x6) none) = .nx (rT w.tree x.tree (some x2) (some x4) (some x6) (some (.tup (ps.map itT)))) ∧ (∀ p ∈ ps, ItOk p) ∧ (ps.map (·.1)).Nodup ∧ ps.length ≤ 3 := by
  have w3 := kw.ws3
  have ln : (eLen (eIx (eVar 0) (eInt 5))).sem (rT w.tree x.tree (some x2) (some x4) (some x6) none) = .ok (.v (.int w.ws.length)) (rT w.tree x.tree (some x2) (some x4) (some x6) none) false := by
    have : (eLen (eIx (eVar 0) (eInt 5))).sem (rT w.tree x.tree (some x2) (some x4) (some x6) none) = .ok (.v (.int (w.ws.map wiT).length)) (rT w.tree x.tree (some x2) (some x4) (some x6) none) false := by kernel_rfl
    rw [List.length_map] at this
    exact this
  have rg := rg1 ln (small62_of ⟨by omega, by omega⟩)
  obtain ⟨acc, τ, e, eτ, l, q⟩ := lc_rel (set := (gN 3).sem) (tt := trL4.tt) (te := trL4.el.sem) (vs := [3]) (ρ := rT w.tree x.tree (some x2) (some x4) (some x6) none) true (fun t y => ∃ (k : Nat) (p : Str × List T), t = .int k ∧ y = itT p ∧ ItOk p ∧ x.c[k]? = some p.1) (rangeL 0 w.ws.length) [] false (fun t ht => by
    obtain ⟨i, hi⟩ := List.getElem?_of_mem ht
    obtain ⟨rfl, hk⟩ := rangeL_get hi
    obtain ⟨p, p1, p2, p3⟩ := wish_item_ok kw ho hk
    let ρ1 : Rho := [some w.tree, some x.tree, some x2, some (.int i), some x4, none, some x6, none]
    exact ⟨ρ1, ρ1, itT p, true, rfl, rfl, e_callF (F := F_law_wish_item) (φ := φ_law_wish_item) rfl (ρ1 := ρ1) (τ := false) (os := [.p 0 [], .p 1 [], .v (.int i)]) (ts := [w.tree, x.tree, .int i]) (by kernel_rfl) (by kernel_rfl) (by kernel_rfl) (by kernel_rfl) p1 (by kernel_rfl), fun z => (by cases z), rfl, i, p, rfl, rfl, p2, p3⟩) (by rw [rangeL_len, sizeLine_eq]; simp only [List.length_nil]; omega)
  rw [List.nil_append] at e
  have hl : acc.length = w.ws.length := by rw [l, rangeL_len]; omega
  obtain ⟨ps, rfl, hps⟩ := its_of (P := fun p => ItOk p) (acc := acc) (of_get l q fun t y ⟨k, p, _, h2, h3, _⟩ => ⟨p, h2, h3⟩)
  rw [List.length_map] at hl
  have en : ps.map (·.1) = x.c := by
    apply List.ext_getElem?
    intro i
    rcases Nat.lt_or_ge i ps.length with h | h
    · have hr : (rangeL 0 w.ws.length)[i]? = some (.int i) := by
        unfold rangeL
        rw [List.getElem?_map, List.getElem?_eq_getElem (by rw [List.length_range]; omega)]
        simp
      obtain ⟨k, p, h1, h2, _, h4⟩ := q i _ (itT ps[i]) hr (by rw [List.getElem?_map, List.getElem?_eq_getElem h]; rfl)
      have hk : k = i := by
        have := T.int.inj h1
        omega
      subst hk
      have e1 : ps[k].1 = p.1 := by
        have := T.tup.inj h2
        exact T.str.inj (List.cons.inj this).1
      rw [List.getElem?_map, List.getElem?_eq_getElem h, h4]
      simp [e1]
    · rw [List.getElem?_eq_none (by rw [List.length_map]; exact h), List.getElem?_eq_none (by rw [ho.c]; omega)]
  exact ⟨ps, s_set (e_tuple (e_lc (l := trL4) rg rfl e (.inl rfl)) rfl rfl (imms_of fun t h => by obtain ⟨p, hp, rfl⟩ := List.mem_map.mp h; exact (hps p hp).gd.im)) rfl, hps, by rw [en]; exact ho.nd, by omega⟩
/-- a tree: what no edit changes, the three lists, the rule -/
structure Tr where
  x0 : T
  x1 : T
  x2 : T
  x3 : T
  x4 : T
  x5 : T
  r6 : List (Str × List T)
  r7 : List (Str × List T)
  r8 : List (Str × List T)
  rule : Str
abbrev rows (r : List (Str × List T)) : T := .tup (r.map itT)
abbrev Tr.tree (t : Tr) : T := .tup [t.x0, t.x1, t.x2, t.x3, t.x4, t.x5, rows t.r6, rows t.r7, rows t.r8, .str t.rule]
structure RowsOk (n : Nat) (r : List (Str × List T)) : Prop where
  it : ∀ p ∈ r, ItOk p
  nd : (r.map (·.1)).Nodup
  ln : r.length ≤ n
structure Tr.Ok (n : Nat) (t : Tr) : Prop where
  x0 : Gd2 3 40000 t.x0
  x1 : Gd2 3 40000 t.x1
  x2 : Gd2 3 40000 t.x2
  x3 : Gd2 3 40000 t.x3
  x4 : Gd2 3 40000 t.x4
  x5 : Gd2 3 40000 t.x5
  r6 : RowsOk n t.r6
  r7 : RowsOk n t.r7
  r8 : RowsOk n t.r8
  rule : Tx t.rule
theorem g3s {s : Str} (h : Tx s) : Gd2 3 40000 (.str s) := gd_up (gd_str h) (by omega) (by omega)
theorem g3i {i : Nat} (h : i ≤ 400) : Gd2 3 40000 (.int i) := gd_up (gd_int h) (by omega) (by omega)
theorem rowsOk_nil {n : Nat} : RowsOk n [] := ⟨fun p h => (by cases h), .nil, Nat.zero_le _⟩
theorem tree_ok (kw : w.Ok) (ho : x.Ok w) : ∃ t : Tr, φ_law_tree [w.tree, x.tree] = .ok t.tree [some w.tree, some x.tree] ∧ t.Ok 3 := by
  obtain ⟨y2, e2, g2⟩ := tree1 kw ho
  obtain ⟨y4, e4, g4⟩ := tree2 kw ho y2
  obtain ⟨y6, e6, g6⟩ := tree3 kw ho y2 y4
  obtain ⟨ps, e7, h1, h2, h3⟩ := tree4 kw ho y2 y4 y6
  have ip : (rows ps).imm = true := imms_of fun t h => by obtain ⟨p, hp, rfl⟩ := List.mem_map.mp h; exact (h1 p hp).gd.im
  let ρ : Rho := rT w.tree x.tree (some y2) (some y4) (some y6) (some (rows ps))
  let R : Ex := eTup (xs [(eStr "text"), (eIx (eVar 0) (eInt 0)), (eIx (eVar 0) (eInt 1)), (eVar 2), (eVar 4), (eVar 6), (eVar 7), (eTup (xs [])), (eTup (xs [])), (eStr "")])
  let t : Tr := ⟨.str "text", .int w.dat, .int 4, y2, y4, y6, ps, [], [], ""⟩
  have tl : evL [(eTup (xs [])).sem, (eTup (xs [])).sem, (eStr "").sem] ρ = .ok [.v (.tup []), .v (.tup []), .v (.str "")] ρ false := by kernel_rfl
  have t1 : (eIx (eVar 0) (eInt 0)).sem ρ = .ok (.v (.int w.dat)) ρ false := by kernel_rfl
  have t2 : (eIx (eVar 0) (eInt 1)).sem ρ = .ok (.v (.int 4)) ρ false := by kernel_rfl
  have rt : R.sem ρ = .ok (.v t.tree) ρ false :=
    e_tup (ts := [.str "text", .int w.dat, .int 4, y2, y4, y6, rows ps, .tup [], .tup [], .str ""]) (evc (ρ1 := ρ) (τ1 := false) (τ2 := false) (t := .str "text") rfl (evc (τ1 := false) (τ2 := false) t1 (evc (τ1 := false) (τ2 := false) t2 (evc (τ1 := false) (τ2 := false) (v_imm (i := 2) (ρ := ρ) rfl g2.im) (evc (τ1 := false) (τ2 := false) (v_imm (i := 4) (ρ := ρ) rfl g4.im) (evc (τ1 := false) (τ2 := false) (v_imm (i := 6) (ρ := ρ) rfl g6.im) (evc (τ1 := false) (τ2 := false) (v_imm (i := 7) (ρ := ρ) (t := rows ps) rfl ip) tl))))))) (show 10 ≤ 10000 by decide)
  have d4 : w.dat ≤ 400 := by rcases kw.dat with z | z <;> omega
  exact ⟨t, fn_ret (b := b_law_tree) rfl ((b_nx e2).trans ((b_nx e4).trans ((b_nx e6).trans ((b_nx e7).trans (b_ret (s_ret rt)))))) rfl rfl, ⟨g3s (tx_of (by decide +kernel)), g3i d4, g3i (i := 4) (by decide), g2, g4, g6, ⟨h1, h2, h3⟩, rowsOk_nil, rowsOk_nil, tx_of (s := "") (by decide +kernel)⟩⟩
end
end K81
set_option Elab.async false
set_option linter.all false
set_option maxRecDepth 100000
set_option maxHeartbeats 4000000
/-! k81: edits. -/
namespace K81
open PySem L2 Pv
def kS : Nat → Str
  | 0 => "wishes"
  | 1 => "shares"
  | _ => "policies"
inductive Ed where
  | rule (s : Str) | put (j : Nat) (p : Str × List T) | drop (j : Nat) (s : Str)
def edT : Ed → T
  | .rule s => .tup [.str "rule", .str s]
  | .put j p => .tup [.str "put", .str (kS j), itT p]
  | .drop j s => .tup [.str "drop", .str (kS j), .str s]
def Ed.Ok : Ed → Prop
  | .rule s => Tx s
  | .put j p => j < 3 ∧ ItOk p
  | .drop j s => j < 3 ∧ Tx s
def Tr.row (t : Tr) : Nat → List (Str × List T)
  | 0 => t.r6
  | 1 => t.r7
  | _ => t.r8
theorem Tr.Ok.row {n : Nat} {t : Tr} (k : t.Ok n) (j : Nat) : RowsOk n (t.row j) := by
  match j with
  | 0 => exact k.r6
  | 1 => exact k.r7
  | n + 2 => exact k.r8
theorem it_im {n : Nat} {r : List (Str × List T)} (k : RowsOk n r) : T.imms (r.map itT) = true := imms_of fun t h => by obtain ⟨p, hp, rfl⟩ := List.mem_map.mp h; exact (k.it p hp).gd.im
theorem rows_im {n : Nat} {r : List (Str × List T)} (k : RowsOk n r) : (rows r).imm = true := it_im k
theorem Tr.Ok.im {n : Nat} {t : Tr} (k : t.Ok n) : t.tree.imm = true := by
  have h := imms_of (ts := [t.x0, t.x1, t.x2, t.x3, t.x4, t.x5, rows t.r6, rows t.r7, rows t.r8, .str t.rule]) fun u hu => by
    simp only [List.mem_cons, List.not_mem_nil, or_false] at hu
    rcases hu with rfl | rfl | rfl | rfl | rfl | rfl | rfl | rfl | rfl | rfl
    · exact k.x0.im
    · exact k.x1.im
    · exact k.x2.im
    · exact k.x3.im
    · exact k.x4.im
    · exact k.x5.im
    · exact rows_im k.r6
    · exact rows_im k.r7
    · exact rows_im k.r8
    · rfl
  exact h
theorem Tr.at {t : Tr} {j : Nat} (hj : j < 3) : [t.x0, t.x1, t.x2, t.x3, t.x4, t.x5, rows t.r6, rows t.r7, rows t.r8, .str t.rule][6 + j]? = some (rows (t.row j)) := by
  obtain rfl | rfl | rfl : j = 0 ∨ j = 1 ∨ j = 2 := by omega
  all_goals rfl
section
variable {w : Wo} {x : Nm}
abbrev rJ (d x : T) (k n : Str) : Rho := [some d, some x, some (.str k), some (.str n)]
def itC (s : Str) : Bx := bCmp .Eq (eVar 2) (eStr s)
def itR0 : Ex := eTup (xs [(eVar 3), (eIx (eIx (eVar 1) (eInt 0)) (eInt 0)), (eStr ""), (eCall F_law_pick (xs [(eVar 0), (eLst (xs [(eStr ""), (eStr "1"), (eStr "0*")]))])), (eTup (xs [])), (eTup (xs [])), (eStr ""), (eCall F_law_draw (xs [(eVar 0), (eInt 4)]))])
def itR1 : Ex := eTup (xs [(eVar 3), (eIx (eIx (eVar 1) (eInt 0)) (eInt 0)), (eIx (eIx (eVar 1) (eInt 0)) (eInt 1)), (eBin .Add (eInt 1) (eCall F_law_draw (xs [(eVar 0), (eInt 2)]))), (eStr "")])
def itR2 : Ex := eTup (xs [(eVar 3), (eStr "less"), (eStr ""), (eTup (xs [(eVar 3), (eIx (eIx (eVar 1) (eInt 0)) (eInt 1))]))])
theorem item_ok {d : T} (hd : Dg d) (kw : w.Ok) (ho : x.Ok w) {j : Nat} (hj : j < 3) {s : Str} (hs : Tx s) : ∃ (ts : List T) (d' : T), φ_law_item [d, x.tree, .str (kS j), .str s] = .ok (itT (s, ts)) [some d', some x.tree, some (.str (kS j)), some (.str s)] ∧ Dg d' ∧ ItOk (s, ts) := by
  have cal : calmArgs b_law_item.asg 0 [d, x.tree, .str (kS j), .str s] = true := by obtain ⟨ts0, rfl⟩ := dg_shape hd; rfl
  have bk : ∀ {d' : T} {k : Str}, Dg d' → back [d, x.tree, .str k, .str s] 0 (rJ d' x.tree k s) = [some d', some x.tree, some (.str k), some (.str s)] := fun {d' k} h => by obtain ⟨ts0, rfl⟩ := dg_shape hd; obtain ⟨ts1, rfl⟩ := dg_shape h; rfl
  have n2 := kw.n2
  have l0 : 0 < x.a.length := by rw [ho.a]; omega
  have l1 : 1 < x.a.length := by rw [ho.a]; omega
  have t0 : Tx x.a[0] := pool_tx _ (ho.pa _ (List.getElem_mem l0))
  have t1 : Tx x.a[1] := pool_tx _ (ho.pa _ (List.getElem_mem l1))
  have te : Tx "" := tx_of (by decide +kernel)
  have g0 : ∀ (d : T) (k : Str), (eIx (eIx (eVar 1) (eInt 0)) (eInt 0)).sem (rJ d x.tree k s) = .ok (.v (.str x.a[0])) (rJ d x.tree k s) false := fun d k => pp_str (i := 1) (j := 0) (l := x.a) (k := 0) rfl rfl rfl l0
  have g1 : ∀ (d : T) (k : Str), (eIx (eIx (eVar 1) (eInt 0)) (eInt 1)).sem (rJ d x.tree k s) = .ok (.v (.str x.a[1])) (rJ d x.tree k s) false := fun d k => pp_str (i := 1) (j := 0) (l := x.a) (k := 1) rfl rfl rfl l1
  obtain rfl | rfl | rfl : j = 0 ∨ j = 1 ∨ j = 2 := by omega
  · have c : (itC "wishes").sem (rJ d x.tree (kS 0) s) = .ok true (rJ d x.tree (kS 0) s) false := by kernel_rfl
    obtain ⟨u, d1, hu, q1, g1'⟩ := e_pickT hd (row := [.str "", .str "1", .str "0*"]) rfl (by decide) (by decide) (a := eLst (xs [(eStr ""), (eStr "1"), (eStr "0*")])) (r := [some x.tree, some (.str (kS 0)), some (.str s)]) (τ := false) rfl
    obtain ⟨k, d2, q2, g2', b2⟩ := e_drawN g1' (m := 4) (by omega) (by omega) (a := eInt 4) (r := [some x.tree, some (.str (kS 0)), some (.str s)]) rfl
    obtain ⟨v, rfl, tv⟩ : ∃ v, u = .str v ∧ Tx v := by
      simp only [List.mem_cons, List.not_mem_nil, or_false] at hu
      rcases hu with rfl | rfl | rfl
      · exact ⟨_, rfl, te⟩
      · exact ⟨_, rfl, tx_of (by decide +kernel)⟩
      · exact ⟨_, rfl, tx_of (by decide +kernel)⟩
    have tl : evL [(eTup (xs [])).sem, (eTup (xs [])).sem, (eStr "").sem, (eCall F_law_draw (xs [(eVar 0), (eInt 4)])).sem] (rJ d1 x.tree (kS 0) s) = .ok [.v (.tup []), .v (.tup []), .v (.str ""), .v (.int k)] (rJ d2 x.tree (kS 0) s) true :=
      evc (ρ1 := rJ d1 x.tree (kS 0) s) (t := .tup []) (τ1 := false) (τ2 := true) (by kernel_rfl) (evc (ρ1 := rJ d1 x.tree (kS 0) s) (t := .tup []) (τ1 := false) (τ2 := true) (by kernel_rfl) (evc (ρ1 := rJ d1 x.tree (kS 0) s) (t := .str "") (τ1 := false) (τ2 := true) rfl (evc (τ1 := true) (τ2 := false) q2 evn)))
    have rt : itR0.sem (rJ d x.tree (kS 0) s) = .ok (.v (itT (s, [.str x.a[0], .str "", .str v, .tup [], .tup [], .str "", .int k]))) (rJ d2 x.tree (kS 0) s) true :=
      e_tup (ts := [.str s, .str x.a[0], .str "", .str v, .tup [], .tup [], .str "", .int k]) (evc (ρ1 := rJ d x.tree (kS 0) s) (τ1 := false) (τ2 := true) (t := .str s) (v_imm rfl rfl) (evc (τ1 := false) (τ2 := true) (g0 _ _) (evc (ρ1 := rJ d x.tree (kS 0) s) (t := .str "") (τ1 := false) (τ2 := true) rfl (evc (τ1 := true) (τ2 := true) q1 tl)))) (show 8 ≤ 10000 by decide)
    refine ⟨_, d2, fn_ret (b := b_law_item) rfl (b_ret ((i_t c).trans (b_ret (s_ret rt)))) (bk g2') cal, g2', it_ok hs (fun t ht => ?_) (by simp)⟩
    simp only [List.mem_cons, List.not_mem_nil, or_false] at ht
    rcases ht with rfl | rfl | rfl | rfl | rfl | rfl | rfl
    · exact g1s t0
    · exact g1s te
    · exact g1s tv
    · exact g1t (fun t h => by cases h) (by simp)
    · exact g1t (fun t h => by cases h) (by simp)
    · exact g1s te
    · exact g1i (by omega)
  · have c : (itC "wishes").sem (rJ d x.tree (kS 1) s) = .ok false (rJ d x.tree (kS 1) s) false := by kernel_rfl
    have c2 : (itC "shares").sem (rJ d x.tree (kS 1) s) = .ok true (rJ d x.tree (kS 1) s) false := by kernel_rfl
    obtain ⟨k, d2, q2, g2', b2⟩ := e_drawN hd (m := 2) (by omega) (by omega) (a := eInt 2) (r := [some x.tree, some (.str (kS 1)), some (.str s)]) rfl
    have rt : itR1.sem (rJ d x.tree (kS 1) s) = .ok (.v (itT (s, [.str x.a[0], .str x.a[1], .int (1 + k : Nat), .str ""]))) (rJ d2 x.tree (kS 1) s) true :=
      e_tup (ts := [.str s, .str x.a[0], .str x.a[1], .int (1 + k : Nat), .str ""]) (evc (ρ1 := rJ d x.tree (kS 1) s) (τ1 := false) (τ2 := true) (t := .str s) (v_imm rfl rfl) (evc (τ1 := false) (τ2 := true) (g0 _ _) (evc (τ1 := false) (τ2 := true) (g1 _ _) (evc (τ1 := true) (τ2 := false) (e_addN (a := eInt 1) (x := 1) (τ1 := false) (ρ1 := rJ d x.tree (kS 1) s) rfl q2) (evc (ρ1 := rJ d2 x.tree (kS 1) s) (t := .str "") (τ1 := false) (τ2 := false) rfl evn))))) (show 5 ≤ 10000 by decide)
    refine ⟨_, d2, fn_ret (b := b_law_item) rfl ((b_skip c).trans (b_ret ((i_t c2).trans (b_ret (s_ret rt))))) (bk g2') cal, g2', it_ok hs (fun t ht => ?_) (by simp)⟩
    simp only [List.mem_cons, List.not_mem_nil, or_false] at ht
    rcases ht with rfl | rfl | rfl | rfl
    · exact g1s t0
    · exact g1s t1
    · exact g1i (by omega)
    · exact g1s te
  · have c : (itC "wishes").sem (rJ d x.tree (kS 2) s) = .ok false (rJ d x.tree (kS 2) s) false := by kernel_rfl
    have c2 : (itC "shares").sem (rJ d x.tree (kS 2) s) = .ok false (rJ d x.tree (kS 2) s) false := by kernel_rfl
    have r2 : (eTup (xs [(eVar 3), (eIx (eIx (eVar 1) (eInt 0)) (eInt 1))])).sem (rJ d x.tree (kS 2) s) = .ok (.v (.tup [.str s, .str x.a[1]])) (rJ d x.tree (kS 2) s) false :=
      e_tup (ts := [.str s, .str x.a[1]]) (evc (ρ1 := rJ d x.tree (kS 2) s) (τ1 := false) (τ2 := false) (t := .str s) (v_imm rfl rfl) (evc (τ1 := false) (τ2 := false) (g1 _ _) evn)) (show 2 ≤ 10000 by decide)
    have rt : itR2.sem (rJ d x.tree (kS 2) s) = .ok (.v (itT (s, [.str "less", .str "", .tup [.str s, .str x.a[1]]]))) (rJ d x.tree (kS 2) s) false :=
      e_tup (ts := [.str s, .str "less", .str "", .tup [.str s, .str x.a[1]]]) (evc (ρ1 := rJ d x.tree (kS 2) s) (τ1 := false) (τ2 := false) (t := .str s) (v_imm rfl rfl) (evc (ρ1 := rJ d x.tree (kS 2) s) (τ1 := false) (τ2 := false) (t := .str "less") rfl (evc (ρ1 := rJ d x.tree (kS 2) s) (τ1 := false) (τ2 := false) (t := .str "") rfl (evc (τ1 := false) (τ2 := false) r2 evn)))) (show 4 ≤ 10000 by decide)
    refine ⟨_, d, fn_ret (b := b_law_item) rfl ((b_skip c).trans ((b_skip c2).trans (b_ret (s_ret rt)))) (bk hd) cal, hd, it_ok hs (fun t ht => ?_) (by simp)⟩
    simp only [List.mem_cons, List.not_mem_nil, or_false] at ht
    rcases ht with rfl | rfl | rfl
    · exact g1s (tx_of (by decide +kernel))
    · exact g1s te
    · exact gd_up (gd_tup (k := 0) (n := 122) (ts := [.str s, .str x.a[1]]) fun t ht => by
        simp only [List.mem_cons, List.not_mem_nil, or_false] at ht
        rcases ht with rfl | rfl
        · exact gd_str hs
        · exact gd_str t1) (by omega) (by simp)
end
end K81
set_option Elab.async false
set_option linter.all false
set_option maxRecDepth 100000
set_option maxHeartbeats 4000000
/-! k81: an edit is drawn. -/
namespace K81
open PySem L2 Pv
section
variable {w : Wo} {x : Nm} {t : Tr}
abbrev rE (d t x : T) (way kind place there name : Option T) : Rho := [some d, some t, some x, way, kind, place, there, none, name]
def edK : Ex := eLst (xs [(eStr "wishes"), (eStr "shares"), (eStr "policies")])
def edP : Ex := eBin .Add (eInt 6) (eIndex edK (eVar 4))
def edL : Lc := ⟨[7], (gN 7), (iSeq (eIx (eVar 1) (eVar 5))), none, (eIx (eVar 7) (eInt 0))⟩
def hdF : T → T
  | .tup (s :: _) => s
  | _ => .non
theorem hd_names (r : List (Str × List T)) : (r.map itT).map hdF = (r.map (·.1)).map T.str := by
  simp [List.map_map, Function.comp_def, hdF]
def edN : Ex := eIf (bAnd [(bCmp .Gt (eLen (eVar 6)) (eInt 0)), (bCmp .Eq (eCall F_law_draw (xs [(eVar 0), (eInt 2)])) (eInt 0))]) (eCall F_law_pick (xs [(eVar 0), (eVar 6)])) (eCall F_law_pick (xs [(eVar 0), (eIx (eVar 2) (eInt 3))]))
/-- a pick from a list in the names -/
theorem e_pickP {d : T} (hd : Dg d) {row rows : List T} (him : T.imms row = true) (hne : 0 < row.length) (hl : row.length < 1073741824) {i j : Nat} {r : Rho} (h : r[i]? = some (some (.lst rows))) (hj : rows[j]? = some (.lst row)) :
    ∃ y d', y ∈ row ∧ (eCall F_law_pick (xs [(eVar 0), (eIx (eVar (i + 1)) (eInt (j : Int)))])).sem (some d :: r) = .ok (.v y) (some d' :: r) true ∧ Dg d' := by
  obtain ⟨y, d', q0, q1, q2⟩ := pick_ok hd him hne hl
  obtain ⟨ts, rfl⟩ := dg_shape hd
  have h' : (some (T.lst ts) :: r)[i + 1]? = some (some (.lst rows)) := by simpa using h
  have px := p_ix (ρ := some (T.lst ts) :: r) (i := i + 1) (j := j) h' hj rfl
  have pg := p_get (ρ := some (T.lst ts) :: r) (i := i + 1) (j := j) h' hj
  refine ⟨y, d', q0, e_call (F := F_law_pick) (ρ1 := some (.lst ts) :: r) (τ := false) (os := [.p 0 [], .p (i + 1) [j]]) (ts := [.lst ts, .lst row]) (ev2 (τ1 := false) (τ2 := false) (v_lst rfl) px rfl rfl) ?_ rfl ?_ q1 ?_, q2⟩
  · simp only [getOs, pg]
    simp only [getO, List.getElem?_cons_zero, T.at]
  · simp [slots, O.slot, nodupB]
  · have hi : i < r.length := by
      rcases Nat.lt_or_ge i r.length with z | z
      · exact z
      · rw [List.getElem?_eq_none z] at h; cases h
    have hg : r[i] = some (.lst rows) := by rw [List.getElem?_eq_getElem hi] at h; simpa using h
    have hs : rows.set j (.lst row) = rows := by
      obtain ⟨hlt, e⟩ := List.getElem?_eq_some_iff.mp hj
      rw [← e, List.set_getElem_self]
    simp only [wb, List.getElem?_cons_zero, List.set_cons_zero, List.getElem?_cons_succ, h, T.put, List.set_cons_succ, T.items, hj, T.remake, hs]
    rw [← hg, List.set_getElem_self]
theorem edit_ok {d : T} (hd : Dg d) (kw : w.Ok) (ho : x.Ok w) {n : Nat} (kt : t.Ok n) (hn : n ≤ 100) : ∃ (e : Ed) (d' : T), φ_law_edit [d, t.tree, x.tree] = .ok (edT e) [some d', some t.tree, some x.tree] ∧ Dg d' ∧ e.Ok := by
  have cal : calmArgs b_law_edit.asg 0 [d, t.tree, x.tree] = true := by
    obtain ⟨ts0, rfl⟩ := dg_shape hd
    show ((false || true) && ((t.tree.imm || true) && ((false || true) && true))) = true
    simp
  have bk : ∀ {d' : T} {way kind place there name : Option T}, Dg d' → back [d, t.tree, x.tree] 0 (rE d' t.tree x.tree way kind place there name) = [some d', some t.tree, some x.tree] := fun h => by
    obtain ⟨ts0, rfl⟩ := dg_shape hd
    obtain ⟨ts1, rfl⟩ := dg_shape h
    show [_, (if t.tree.imm = true then some t.tree else _), _] = _
    rw [kt.im]
    rfl
  obtain ⟨wy, d1, q1, g1, b1⟩ := e_drawN hd (m := 7) (by omega) (by omega) (a := eInt 7) (r := [some t.tree, some x.tree, none, none, none, none, none, none]) rfl
  have s1 : (sSet (gN 3) (eCall F_law_draw (xs [(eVar 0), (eInt 7)]))).sem (rE d t.tree x.tree none none none none none) = .nx (rE d1 t.tree x.tree (some (.int wy)) none none none none) := s_set q1 rfl
  have c1 : (bCmp .Eq (eVar 3) (eInt 0)).sem (rE d1 t.tree x.tree (some (.int wy)) none none none none) = .ok ((wy : Int) == 0) (rE d1 t.tree x.tree (some (.int wy)) none none none none) false := eq_int _ 3 0 wy rfl
  have te : Tx "" := tx_of (by decide +kernel)
  cases e1 : ((wy : Int) == 0) with
  | true =>
    rw [e1] at c1
    have la : (eBin .Add (eIx (eVar 2) (eInt 0)) (eLst (xs [(eStr "")]))).sem (rE d1 t.tree x.tree (some (.int wy)) none none none none) = .ok (.v (.lst (x.a.map T.str ++ [.str ""]))) (rE d1 t.tree x.tree (some (.int wy)) none none none none) false :=
      e_bin (τ1 := false) (τ2 := false) (p_ix (i := 2) (j := 0) (u := sl x.a) rfl rfl rfl) (b := eLst (xs [(eStr "")])) (o2 := .v (.lst [.str ""])) rfl rfl rfl (x := sl x.a) (y := .lst [.str ""]) rfl rfl (if_pos ⟨strs_im _, rfl, by rw [List.length_map, ho.a, sizeLine_eq]; have := kw.n4; simp only [List.length_cons, List.length_nil]; omega⟩)
    have im : T.imms (x.a.map T.str ++ [.str ""]) = true := imms_of fun u hu => by
      rcases List.mem_append.mp hu with hu | hu
      · exact imms_mem (strs_im _) u hu
      · have : u = .str "" := by simpa using hu
        rw [this]; rfl
    obtain ⟨y, d2, hy, q2, g2⟩ := e_pickT g1 im (by simp) (by rw [List.length_append, List.length_map, ho.a]; have := kw.n4; simp only [List.length_cons, List.length_nil]; omega) (r := [some t.tree, some x.tree, some (.int wy), none, none, none, none, none]) la
    obtain ⟨s, rfl, ts⟩ : ∃ s, y = .str s ∧ Tx s := by
      rcases List.mem_append.mp hy with hy | hy
      · obtain ⟨s, hs, rfl⟩ := List.mem_map.mp hy
        exact ⟨s, rfl, pool_tx _ (ho.pa _ hs)⟩
      · have : y = .str "" := by simpa using hy
        exact ⟨"", this, te⟩
    have rt := e_tup (a := xs [(eStr "rule"), (eCall F_law_pick (xs [(eVar 0), (eBin .Add (eIx (eVar 2) (eInt 0)) (eLst (xs [(eStr "")])))]))]) (ts := [.str "rule", .str s]) (evc (ρ := rE d1 t.tree x.tree (some (.int wy)) none none none none) (ρ1 := rE d1 t.tree x.tree (some (.int wy)) none none none none) (t := .str "rule") (τ1 := false) (τ2 := true) rfl (evc (τ1 := true) (τ2 := false) q2 evn)) (show 2 ≤ 10000 by decide)
    exact ⟨.rule s, d2, fn_ret (b := b_law_edit) rfl ((b_nx s1).trans (b_ret ((i_t c1).trans (b_ret (s_ret rt))))) (bk g2) cal, g2, ts⟩
  | false =>
    rw [e1] at c1
    obtain ⟨y, d2, hy, q2, g2⟩ := e_pickT g1 (row := [.str "wishes", .str "shares", .str "policies"]) rfl (by decide) (by decide) (a := edK) (r := [some t.tree, some x.tree, some (.int wy), none, none, none, none, none]) (τ := false) rfl
    obtain ⟨j, rfl, hj⟩ : ∃ j, y = .str (kS j) ∧ j < 3 := by
      simp only [List.mem_cons, List.not_mem_nil, or_false] at hy
      rcases hy with rfl | rfl | rfl
      · exact ⟨0, rfl, by decide⟩
      · exact ⟨1, rfl, by decide⟩
      · exact ⟨2, rfl, by decide⟩
    have s2 : (sSet (gN 4) (eCall F_law_pick (xs [(eVar 0), edK]))).sem (rE d1 t.tree x.tree (some (.int wy)) none none none none) = .nx (rE d2 t.tree x.tree (some (.int wy)) (some (.str (kS j))) none none none) := s_set q2 rfl
    have s3 : (sSet (gN 5) edP).sem (rE d2 t.tree x.tree (some (.int wy)) (some (.str (kS j))) none none none) = .nx (rE d2 t.tree x.tree (some (.int wy)) (some (.str (kS j))) (some (.int (6 + j : Nat))) none none) := by
      obtain rfl | rfl | rfl : j = 0 ∨ j = 1 ∨ j = 2 := by omega
      all_goals kernel_rfl
    have kr := kt.row j
    have ir := it_im kr
    let ρ5 : Rho := rE d2 t.tree x.tree (some (.int wy)) (some (.str (kS j))) (some (.int (6 + j : Nat))) none none
    have it : (iSeq (eIx (eVar 1) (eVar 5))).sem ρ5 = .ok ((t.row j).map itT) ρ5 false false :=
      i_seqT (τ := false) (o := .v (rows (t.row j))) (ix_vv (i := 1) (j := 5) (k := 6 + j) rfl kt.im rfl (Tr.at hj)) rfl ir
    have lcm := lc_map (set := (gN 7).sem) (tt := edL.tt) (te := edL.el.sem) (vs := [7]) (ρ := ρ5) (f := hdF) ((t.row j).map itT) [] (fun u hu => by
      obtain ⟨p, hp, rfl⟩ := List.mem_map.mp hu
      let ρ6 : Rho := [some d2, some t.tree, some x.tree, some (.int wy), some (.str (kS j)), some (.int (6 + j : Nat)), none, some (itT p), none]
      exact ⟨ρ6, ρ6, rfl, rfl, ix_var (i := 7) (k := 0) (ts := .str p.1 :: p.2) rfl (kr.it p hp).gd.im rfl, rfl⟩) (by rw [List.length_map, sizeLine_eq]; have := kr.ln; simp only [List.length_nil]; omega)
    rw [List.nil_append, hd_names] at lcm
    have s4 : (sSetLc 6 edL).sem ρ5 = .nx (rE d2 t.tree x.tree (some (.int wy)) (some (.str (kS j))) (some (.int (6 + j : Nat))) (some (sl ((t.row j).map (·.1)))) none) := s_setLc (e_lc (l := edL) it rfl lcm (.inr rfl)) (show 6 < 9 by decide)
    obtain ⟨s, d4, q4, g4, ts⟩ : ∃ (s : Str) (d4 : T), edN.sem (rE d2 t.tree x.tree (some (.int wy)) (some (.str (kS j))) (some (.int (6 + j : Nat))) (some (sl ((t.row j).map (·.1)))) none) = .ok (.v (.str s)) (rE d4 t.tree x.tree (some (.int wy)) (some (.str (kS j))) (some (.int (6 + j : Nat))) (some (sl ((t.row j).map (·.1)))) none) true ∧ Dg d4 ∧ Tx s := by
      have ln := len_var (i := 6) (ρ := rE d2 t.tree x.tree (some (.int wy)) (some (.str (kS j))) (some (.int (6 + j : Nat))) (some (sl ((t.row j).map (·.1)))) none) rfl
      have c2 := b_cmp (op := .Gt) (b := eInt 0) (o2 := .v (.int 0)) (y := .int 0) (τ2 := false) ln rfl rfl rfl rfl rfl rfl
      have other : ∀ {d3 : T} {τ : Bool}, Dg d3 → (bAnd [(bCmp .Gt (eLen (eVar 6)) (eInt 0)), (bCmp .Eq (eCall F_law_draw (xs [(eVar 0), (eInt 2)])) (eInt 0))]).sem (rE d2 t.tree x.tree (some (.int wy)) (some (.str (kS j))) (some (.int (6 + j : Nat))) (some (sl ((t.row j).map (·.1)))) none) = .ok false (rE d3 t.tree x.tree (some (.int wy)) (some (.str (kS j))) (some (.int (6 + j : Nat))) (some (sl ((t.row j).map (·.1)))) none) τ →
          ∃ (s : Str) (d4 : T), edN.sem (rE d2 t.tree x.tree (some (.int wy)) (some (.str (kS j))) (some (.int (6 + j : Nat))) (some (sl ((t.row j).map (·.1)))) none) = .ok (.v (.str s)) (rE d4 t.tree x.tree (some (.int wy)) (some (.str (kS j))) (some (.int (6 + j : Nat))) (some (sl ((t.row j).map (·.1)))) none) true ∧ Dg d4 ∧ Tx s := fun {d3 τ} g3 c => by
        obtain ⟨y, d4, hy, q4, g4⟩ := e_pickP g3 (row := x.d.map T.str) (strs_im _) (by rw [List.length_map, ho.d]; decide) (by rw [List.length_map, ho.d]; decide) (i := 1) (j := 3) (rows := [sl x.a, sl x.b, sl x.c, sl x.d]) (r := [some t.tree, some x.tree, some (.int wy), some (.str (kS j)), some (.int (6 + j : Nat)), some (sl ((t.row j).map (·.1))), none, none]) rfl rfl
        obtain ⟨s, hs, rfl⟩ := List.mem_map.mp hy
        have := e_if (a := eCall F_law_pick (xs [(eVar 0), (eVar 6)])) c ((if_neg (by decide)).trans q4)
        exact ⟨s, d4, by rw [Bool.or_true] at this; exact this, g4, pool_tx _ (ho.pd _ hs)⟩
      cases e2 : decide ((0 : Int) < ((((t.row j).map (·.1)).map T.str).length : Int)) with
      | false => rw [e2] at c2; exact other g2 (and_f c2)
      | true =>
        rw [e2] at c2
        obtain ⟨k3, d3, q3, g3, b3⟩ := e_drawN g2 (m := 2) (by omega) (by omega) (a := eInt 2) (r := [some t.tree, some x.tree, some (.int wy), some (.str (kS j)), some (.int (6 + j : Nat)), some (sl ((t.row j).map (·.1))), none, none]) rfl
        have c3 := b_cmp (op := .Eq) (b := eInt 0) (o2 := .v (.int 0)) (y := .int 0) (k := ((k3 : Int) == 0)) (τ2 := false) q3 rfl rfl rfl rfl rfl rfl
        cases e3 : ((k3 : Int) == 0) with
        | false => rw [e3] at c3; exact other g3 (and_t c2 (and_1.trans c3))
        | true =>
          rw [e3] at c3
          obtain ⟨y, d4, hy, q4, g4⟩ := e_pickV g3 (row := ((t.row j).map (·.1)).map T.str) (strs_im _) (by have := of_decide_eq_true e2; omega) (by rw [List.length_map, List.length_map]; have := kr.ln; omega) (i := 5) (r := [some t.tree, some x.tree, some (.int wy), some (.str (kS j)), some (.int (6 + j : Nat)), some (sl ((t.row j).map (·.1))), none, none]) rfl
          obtain ⟨s, hs, rfl⟩ := List.mem_map.mp hy
          obtain ⟨p, hp, rfl⟩ := List.mem_map.mp hs
          have := e_if (b := eCall F_law_pick (xs [(eVar 0), (eIx (eVar 2) (eInt 3))])) (and_t c2 (and_1.trans c3)) ((if_pos rfl).trans q4)
          exact ⟨p.1, d4, by rw [Bool.or_true] at this; exact this, g4, (kr.it p hp).tx⟩
    have s5 : (sSet (gN 8) edN).sem (rE d2 t.tree x.tree (some (.int wy)) (some (.str (kS j))) (some (.int (6 + j : Nat))) (some (sl ((t.row j).map (·.1)))) none) = .nx (rE d4 t.tree x.tree (some (.int wy)) (some (.str (kS j))) (some (.int (6 + j : Nat))) (some (sl ((t.row j).map (·.1)))) (some (.str s))) := s_set q4 rfl
    let ρ8 : T → Rho := fun d => rE d t.tree x.tree (some (.int wy)) (some (.str (kS j))) (some (.int (6 + j : Nat))) (some (sl ((t.row j).map (·.1)))) (some (.str s))
    have c5 : (bCmp .Lt (eVar 3) (eInt 5)).sem (ρ8 d4) = .ok (decide ((wy : Int) < 5)) (ρ8 d4) false := b_cmp (τ1 := false) (τ2 := false) (o1 := .v (.int wy)) (o2 := .v (.int 5)) (x := .int wy) (y := .int 5) (v_imm rfl rfl) rfl rfl rfl rfl rfl rfl
    have pre : ∀ {r : RS}, (blk [sIf (bCmp .Lt (eVar 3) (eInt 5)) (blk [sRet (eTup (xs [(eStr "put"), (eVar 4), (eCall F_law_item (xs [(eVar 0), (eVar 2), (eVar 4), (eVar 8)]))]))]) (blk []), sRet (eTup (xs [(eStr "drop"), (eVar 4), (eVar 8)]))]).sem (ρ8 d4) = r → b_law_edit.sem (rE d t.tree x.tree none none none none none) = r := fun h => (b_nx s1).trans ((b_nx ((i_f c1).trans rfl)).trans ((b_nx s2).trans ((b_nx s3).trans ((b_nx s4).trans ((b_nx s5).trans h)))))
    cases e5 : decide ((wy : Int) < 5) with
    | true =>
      rw [e5] at c5
      obtain ⟨us, d5, p1, p2, p3⟩ := item_ok g4 kw ho hj ts
      have cl : (eCall F_law_item (xs [(eVar 0), (eVar 2), (eVar 4), (eVar 8)])).sem (ρ8 d4) = .ok (.v (itT (s, us))) (ρ8 d5) true := by
        obtain ⟨ts4, rfl⟩ := dg_shape g4
        exact e_callF (F := F_law_item) (φ := φ_law_item) rfl (ρ1 := ρ8 (.lst ts4)) (τ := false) (os := [.p 0 [], .p 2 [], .v (.str (kS j)), .v (.str s)]) (ts := [.lst ts4, x.tree, .str (kS j), .str s]) (evp (τ1 := false) (τ2 := false) (v_lst rfl) (evp (τ1 := false) (τ2 := false) (v_lst rfl) (evc (τ1 := false) (τ2 := false) (v_imm (i := 4) rfl rfl) (evc (τ1 := false) (τ2 := false) (v_imm (i := 8) rfl rfl) evn)) rfl) rfl) rfl rfl rfl p1 rfl
      have rt := e_tup (a := xs [(eStr "put"), (eVar 4), (eCall F_law_item (xs [(eVar 0), (eVar 2), (eVar 4), (eVar 8)]))]) (ts := [.str "put", .str (kS j), itT (s, us)]) (evc (ρ := ρ8 d4) (ρ1 := ρ8 d4) (t := .str "put") (τ1 := false) (τ2 := true) rfl (evc (ρ1 := ρ8 d4) (t := .str (kS j)) (τ1 := false) (τ2 := true) (v_imm (i := 4) rfl rfl) (evc (τ1 := true) (τ2 := false) cl evn))) (show 3 ≤ 10000 by decide)
      exact ⟨.put j (s, us), d5, fn_ret (b := b_law_edit) rfl (pre (b_ret ((i_t c5).trans (b_ret (s_ret rt))))) (bk p2) cal, p2, hj, p3⟩
    | false =>
      rw [e5] at c5
      have rt := e_tup (a := xs [(eStr "drop"), (eVar 4), (eVar 8)]) (ts := [.str "drop", .str (kS j), .str s]) (evc (ρ := ρ8 d4) (ρ1 := ρ8 d4) (t := .str "drop") (τ1 := false) (τ2 := false) rfl (evc (ρ1 := ρ8 d4) (t := .str (kS j)) (τ1 := false) (τ2 := false) (v_imm (i := 4) rfl rfl) (evc (ρ1 := ρ8 d4) (t := .str s) (τ1 := false) (τ2 := false) (v_imm (i := 8) rfl rfl) evn))) (show 3 ≤ 10000 by decide)
      exact ⟨.drop j s, d4, fn_ret (b := b_law_edit) rfl (pre ((b_nx ((i_f c5).trans rfl)).trans (b_ret (s_ret rt)))) (bk g4) cal, g4, hj, ts⟩
end
end K81
set_option Elab.async false
set_option linter.all false
set_option maxRecDepth 100000
set_option maxHeartbeats 4000000
/-! k81: the program's edits. -/
namespace Pv
open PySem L2
theorem back2 {a b : T} (ha : a.imm = true) (hb : b.imm = true) (ρ : Rho) : back [a, b] 0 ρ = [some a, some b] := by simp [back, ha, hb]
theorem back3 {a b c : T} (ha : a.imm = true) (hb : b.imm = true) (hc : c.imm = true) (ρ : Rho) : back [a, b, c] 0 ρ = [some a, some b, some c] := by simp [back, ha, hb, hc]
theorem calm2 {a b : T} (ha : a.imm = true) (hb : b.imm = true) (l : List Nat) : calmArgs l 0 [a, b] = true := by simp [calmArgs, ha, hb]
theorem calm3 {a b c : T} (ha : a.imm = true) (hb : b.imm = true) (hc : c.imm = true) (l : List Nat) : calmArgs l 0 [a, b, c] = true := by simp [calmArgs, ha, hb, hc]
theorem evc_ex {s : Rho → R} {ss : List (Rho → R)} {ρ ρ1 ρ2 : Rho} {o : O} {c : Nat} {t : T} {τ1 : Bool} (h : s ρ = .ok o ρ1 τ1) (h2 : evL ss ρ1 = .ex c t ρ2) : evL (s :: ss) ρ = .ex c t ρ2 := by
  have e : evL (s :: ss) ρ = (match s ρ with
    | .ok o ρ1 τ1 => match evL ss ρ1 with
      | .ok os ρ2 τ2 => if (o.deep && τ2) || !o.there ρ2 then .stuck else .ok (o :: os) ρ2 (τ1 || τ2)
      | .ex c t ρ2 => .ex c t ρ2
      | .stuck => .stuck
    | .ex c t ρ1 => .ex c t ρ1
    | .stuck => .stuck) := rfl
  rw [e, h]
  simp only
  rw [h2]
theorem ev_ex {s : Rho → R} {ss : List (Rho → R)} {ρ ρ1 : Rho} {c : Nat} {t : T} (h : s ρ = .ex c t ρ1) : evL (s :: ss) ρ = .ex c t ρ1 := by
  have e : evL (s :: ss) ρ = (match s ρ with
    | .ok o ρ1 τ1 => match evL ss ρ1 with
      | .ok os ρ2 τ2 => if (o.deep && τ2) || !o.there ρ2 then .stuck else .ok (o :: os) ρ2 (τ1 || τ2)
      | .ex c t ρ2 => .ex c t ρ2
      | .stuck => .stuck
    | .ex c t ρ1 => .ex c t ρ1
    | .stuck => .stuck) := rfl
  rw [e, h]
theorem e_call_exA {F : Fn} {a : Xs} {ρ ρ1 : Rho} {c : Nat} {t : T} (h : evL a.sems ρ = .ex c t ρ1) : (eCall F a).sem ρ = .ex c t ρ1 := by
  show effSem F.np a.sems F.φ ρ = _
  unfold effSem
  rw [h]
theorem s_ret_ex {a : Ex} {ρ ρ1 : Rho} {c : Nat} {t : T} (h : a.sem ρ = .ex c t ρ1) : (sRet a).sem ρ = .ex c t ρ1 := by
  show retS a.sem ρ = _
  unfold retS
  rw [h]
theorem s_raise {c : Nat} {cn : Str} {a : Ex} {ρ ρ1 : Rho} {t : T} {τ : Bool} (h : a.sem ρ = .ok (.v t) ρ1 τ) (im : t.imm = true) : (sRaise c cn a).sem ρ = .ex c t ρ1 := by
  show raiseS c a.sem ρ = _
  unfold raiseS
  rw [h]
  simp only [im, if_true]
/-! slices of tuples that are values -/
section
variable {ρ : Rho} {ts : List T} {o a : Ex}
theorem e_slHT (h : o.sem ρ = .ok (.v (.tup ts)) ρ false) (im : T.imms ts = true) {k : Nat} (ha : a.sem ρ = .ok (.v (.int k)) ρ false) (hk : k ≤ ts.length) : (eSlH o a).sem ρ = .ok (.v (.tup (ts.take k))) ρ false := by
  show opSem [o.sem, intSem a.sem] (f2 slHF) ρ = _
  unfold opSem
  rw [ev2 h (int_sem ha) rfl rfl]
  simp only [f2, getO, slHF, sliceT, im, if_true, cut_hi hk]
  rfl
theorem e_slLT (h : o.sem ρ = .ok (.v (.tup ts)) ρ false) (im : T.imms ts = true) {k : Nat} (ha : a.sem ρ = .ok (.v (.int k)) ρ false) (hk : k ≤ ts.length) : (eSlL o a).sem ρ = .ok (.v (.tup (ts.drop k))) ρ false := by
  show opSem [o.sem, intSem a.sem] (f2 slLF) ρ = _
  unfold opSem
  rw [ev2 h (int_sem ha) rfl rfl]
  simp only [f2, getO, slLF, sliceT, im, if_true, cut_lo hk]
  rfl
end
theorem e_addT {a b : Ex} {ρ ρ1 ρ2 : Rho} {x y : List T} {τ1 τ2 : Bool} (h1 : a.sem ρ = .ok (.v (.tup x)) ρ1 τ1) (h2 : b.sem ρ1 = .ok (.v (.tup y)) ρ2 τ2) (ix : T.imms x = true) (iy : T.imms y = true) (hl : x.length + y.length ≤ 1000000) : (eBin .Add a b).sem ρ = .ok (.v (.tup (x ++ y))) ρ2 (τ1 || τ2) :=
  e_bin (o1 := .v (.tup x)) (o2 := .v (.tup y)) (x := .tup x) (y := .tup y) h1 h2 rfl rfl rfl rfl (if_pos ⟨ix, iy, by rw [sizeLine_eq]; omega⟩)
theorem imms_app {a b : List T} (ha : T.imms a = true) (hb : T.imms b = true) : T.imms (a ++ b) = true := imms_of fun t h => by
  rcases List.mem_append.mp h with h | h
  · exact imms_mem ha t h
  · exact imms_mem hb t h
theorem eq_tx {a b : Str} (ha : Tx a) (hb : Tx b) : eqT (.str a) (.str b) = some (a == b) := eq_str (strOk_mem ha.2.1) (strOk_mem hb.2.1)
theorem tx_lay {s : Str} (h : Tx s) : Lay 0 (.str s) := ⟨h.2.1, Nat.zero_le _⟩
theorem any_str (s : Str) : ∀ l : List Str, (T.toDs (l.map T.str)).any (fun z => PyData.eqv z (.str s)) = decide (s ∈ l)
  | [] => by simp [T.toDs]
  | a :: l => by
    show (PyData.eqv (.str a) (.str s) || (T.toDs (l.map T.str)).any (fun z => PyData.eqv z (.str s))) = _
    rw [any_str s l]
    have : PyData.eqv (.str a) (.str s) = decide (s = a) := by
      show (a == s) = _
      by_cases h : a = s
      · subst h; rw [beq_self_eq_true, decide_eq_true rfl]
      · rw [beq_eq_false_iff_ne.mpr h, decide_eq_false fun z => h z.symm]
    rw [this, ← Bool.decide_or]
    simp
theorem in_strs {s : Str} (hs : Tx s) {l : List Str} (hl : ∀ a ∈ l, Tx a) : inT (.str s) (.lst (l.map T.str)) = some (decide (s ∈ l)) := by
  obtain ⟨h1, h2⟩ := lays (k := 0) (ts := l.map T.str) fun t ht => by
    obtain ⟨a, ha, rfl⟩ := List.mem_map.mp ht
    exact tx_lay (hl a ha)
  have s1 : SeqAt.shaped (T.lst (l.map T.str)).toD = true := by
    show (PyData.canLayAll0 (T.toDs (l.map T.str)) && decide (PyData.depthAll (T.toDs (l.map T.str)) + 1 ≤ 64)) = true
    rw [h1, decide_eq_true (by omega)]; rfl
  have s2 : SeqAt.shaped (T.str s).toD = true := shaped_str (strOk_mem hs.2.1)
  show (if SeqAt.shaped (T.str s).toD = true ∧ SeqAt.shaped (T.lst (l.map T.str)).toD = true then some ((T.toDs (l.map T.str)).any fun z => PyData.eqv z (T.str s).toD) else none) = _
  rw [if_pos ⟨s2, s1⟩]
  exact congrArg some (any_str s l)
end Pv
namespace K81
open PySem L2 Pv
theorem with_part_ok {ts : List T} (im : T.imms ts = true) {j : Nat} (hj : j < ts.length) (hl : ts.length ≤ 100) {p : T} (hp : p.imm = true) : φ_with_part [.tup ts, .int j, p] = .ok (.tup (ts.set j p)) [some (.tup ts), some (.int j), some p] := by
  let ρ : Rho := [some (.tup ts), some (.int j), some p]
  have v0 : (eVar 0).sem ρ = .ok (.v (.tup ts)) ρ false := v_imm rfl im
  have v1 : (eVar 1).sem ρ = .ok (.v (.int j)) ρ false := v_imm rfl rfl
  have a1 := e_slHT v0 im v1 (by omega)
  have a2 : (eTup (xs [(eVar 2)])).sem ρ = .ok (.v (.tup [p])) ρ false := e_tup (ts := [p]) (evc (τ1 := false) (τ2 := false) (v_imm rfl hp) evn) (show 1 ≤ 10000 by decide)
  have ip : T.imms [p] = true := by simp [T.imms, hp]
  have it : T.imms (ts.take j) = true := imms_of fun t h => imms_mem im t (List.mem_of_mem_take h)
  have id : T.imms (ts.drop (j + 1)) = true := imms_of fun t h => imms_mem im t (List.mem_of_mem_drop h)
  have a3 := e_addT a1 a2 it ip (by rw [List.length_take]; simp only [List.length_cons, List.length_nil]; omega)
  have a4 := e_slLT v0 im (k := j + 1) (e_addN (b := eInt 1) (y := 1) v1 rfl) (by omega)
  have a5 := e_addT a3 a4 (imms_app it ip) id (by rw [List.length_append, List.length_take, List.length_drop]; simp only [List.length_cons, List.length_nil]; omega)
  have e : ts.take j ++ [p] ++ ts.drop (j + 1) = ts.set j p := by
    rw [List.set_eq_take_append_cons_drop, if_pos hj]
    simp
  rw [e] at a5
  exact fn_ret (b := b_with_part) rfl (b_ret (s_ret a5)) (back3 (a := .tup ts) im rfl hp _) (calm3 (a := .tup ts) im rfl hp _)
/-! the three lists -/
section
variable {n : Nat} {r : List (Str × List T)}
def nmsOf (r : List (Str × List T)) : List Str := r.map (·.1)
def putF (s : Str) (it : T) : T → T
  | .tup (.str a :: l) => if (a == s) = true then it else .tup (.str a :: l)
  | t => t
def putR (p : Str × List T) (r : List (Str × List T)) : List (Str × List T) := r.map fun q => if (q.1 == p.1) = true then p else q
theorem putF_map (p : Str × List T) (r : List (Str × List T)) : (r.map itT).map (putF p.1 (itT p)) = (putR p r).map itT := by
  unfold putR
  rw [List.map_map, List.map_map]
  apply List.map_congr_left
  intro q _
  simp only [Function.comp_apply, putF]
  split <;> rfl
theorem put_item_ok (k : RowsOk n r) (hn : n ≤ 100) {p : Str × List T} (kp : ItOk p) : φ_put_item [rows r, itT p] = .ok (rows (if p.1 ∈ nmsOf r then putR p r else r ++ [p])) [some (rows r), some (itT p)] := by
  have ir := it_im k
  have ln := k.ln
  let ρ0 : Rho := [some (rows r), some (itT p), none, none]
  have it : (iSeq (eVar 0)).sem ρ0 = .ok (r.map itT) ρ0 false false := i_seqT (τ := false) (o := .v (rows r)) (v_imm (t := rows r) rfl ir) rfl ir
  have lcm := lc_map (set := (gN 3).sem) (tt := Lc.tt ⟨[3], (gN 3), (iSeq (eVar 0)), none, (eIx (eVar 3) (eInt 0))⟩) (te := (eIx (eVar 3) (eInt 0)).sem) (vs := [3]) (ρ := ρ0) (f := hdF) (r.map itT) [] (fun u hu => by
    obtain ⟨q, hq, rfl⟩ := List.mem_map.mp hu
    let ρ1 : Rho := [some (rows r), some (itT p), none, some (itT q)]
    exact ⟨ρ1, ρ1, rfl, rfl, ix_var (i := 3) (k := 0) (ts := .str q.1 :: q.2) rfl (k.it q hq).gd.im rfl, rfl⟩) (by rw [List.length_map, sizeLine_eq]; simp only [List.length_nil]; omega)
  rw [List.nil_append, hd_names] at lcm
  have s1 : (sSetLc 2 ⟨[3], (gN 3), (iSeq (eVar 0)), none, (eIx (eVar 3) (eInt 0))⟩).sem ρ0 = .nx [some (rows r), some (itT p), some (sl (nmsOf r)), none] := s_setLc (e_lc (l := ⟨[3], (gN 3), (iSeq (eVar 0)), none, (eIx (eVar 3) (eInt 0))⟩) it rfl lcm (.inr rfl)) (show 2 < 4 by decide)
  let ρ : Rho := [some (rows r), some (itT p), some (sl (nmsOf r)), none]
  have txs : ∀ a ∈ nmsOf r, Tx a := fun a ha => by
    obtain ⟨q, hq, rfl⟩ := List.mem_map.mp ha
    exact (k.it q hq).tx
  have c : (bCmp .NotIn (eIx (eVar 1) (eInt 0)) (eVar 2)).sem ρ = .ok (!decide (p.1 ∈ nmsOf r)) ρ false :=
    b_cmp (τ1 := false) (τ2 := false) (o2 := .p 2 []) (y := sl (nmsOf r)) (ix_var (i := 1) (k := 0) (ts := .str p.1 :: p.2) rfl kp.gd.im rfl) (v_lst rfl) rfl rfl rfl rfl (by
      show (inT _ _).map (!·) = _
      rw [in_strs kp.tx txs]; rfl)
  have cal := calm2 (a := rows r) (b := itT p) ir kp.gd.im b_put_item.asg
  by_cases h : p.1 ∈ nmsOf r
  · rw [decide_eq_true h] at c
    rw [if_pos h]
    have lc2 := lc_map (set := (gN 3).sem) (tt := Lc.tt ⟨[3], (gN 3), (iSeq (eVar 0)), none, (eIf (bCmp .Eq (eIx (eVar 3) (eInt 0)) (eIx (eVar 1) (eInt 0))) (eVar 1) (eVar 3))⟩) (te := (eIf (bCmp .Eq (eIx (eVar 3) (eInt 0)) (eIx (eVar 1) (eInt 0))) (eVar 1) (eVar 3)).sem) (vs := [3]) (ρ := ρ) (f := putF p.1 (itT p)) (r.map itT) [] (fun u hu => by
      obtain ⟨q, hq, rfl⟩ := List.mem_map.mp hu
      let ρ1 : Rho := [some (rows r), some (itT p), some (sl (nmsOf r)), some (itT q)]
      have cq : (bCmp .Eq (eIx (eVar 3) (eInt 0)) (eIx (eVar 1) (eInt 0))).sem ρ1 = .ok (q.1 == p.1) ρ1 false :=
        b_cmp (τ1 := false) (τ2 := false) (o1 := .v (.str q.1)) (o2 := .v (.str p.1)) (x := .str q.1) (y := .str p.1) (ix_var (i := 3) (k := 0) (ts := .str q.1 :: q.2) rfl (k.it q hq).gd.im rfl) (ix_var (i := 1) (k := 0) (ts := .str p.1 :: p.2) rfl kp.gd.im rfl) rfl rfl rfl rfl (eq_tx (k.it q hq).tx kp.tx)
      refine ⟨ρ1, ρ1, rfl, rfl, ?_, rfl⟩
      show _ = R.ok (.v (if (q.1 == p.1) = true then itT p else itT q)) ρ1 false
      refine e_if (τ := false) (τ2 := false) cq ?_
      split
      · exact v_imm rfl kp.gd.im
      · exact v_imm rfl (k.it q hq).gd.im) (by rw [List.length_map, sizeLine_eq]; simp only [List.length_nil]; omega)
    rw [List.nil_append, putF_map] at lc2
    have it2 : (iSeq (eVar 0)).sem ρ = .ok (r.map itT) ρ false false := i_seqT (τ := false) (o := .v (rows r)) (v_imm (t := rows r) rfl ir) rfl ir
    have im : T.imms ((putR p r).map itT) = true := imms_of fun u hu => by
      obtain ⟨q, hq, rfl⟩ := List.mem_map.mp hu
      obtain ⟨z, hz, rfl⟩ := List.mem_map.mp hq
      split
      · exact kp.gd.im
      · exact (k.it z hz).gd.im
    have rt := s_ret (e_tuple (e_lc (l := ⟨[3], (gN 3), (iSeq (eVar 0)), none, (eIf (bCmp .Eq (eIx (eVar 3) (eInt 0)) (eIx (eVar 1) (eInt 0))) (eVar 1) (eVar 3))⟩) it2 rfl lc2 (.inr rfl)) rfl rfl im)
    exact fn_ret (b := b_put_item) rfl ((b_nx s1).trans ((b_nx ((i_f c).trans rfl)).trans (b_ret rt))) (back2 (a := rows r) (b := itT p) ir kp.gd.im _) cal
  · rw [decide_eq_false h] at c
    rw [if_neg h]
    have ip : T.imms [itT p] = true := by simp only [T.imms, Bool.and_true]; exact kp.gd.im
    have ap := e_addT (a := eVar 0) (b := eTup (xs [(eVar 1)])) (ρ := ρ) (x := r.map itT) (y := [itT p]) (τ1 := false) (τ2 := false) (v_imm (t := rows r) rfl ir) (e_tup (ts := [itT p]) (evc (τ1 := false) (τ2 := false) (v_imm (t := itT p) rfl kp.gd.im) evn) (show 1 ≤ 10000 by decide)) ir ip (by rw [List.length_map]; simp only [List.length_cons, List.length_nil]; omega)
    rw [show r.map itT ++ [itT p] = (r ++ [p]).map itT by simp] at ap
    exact fn_ret (b := b_put_item) rfl ((b_nx s1).trans (b_ret ((i_t c).trans (b_ret (s_ret ap))))) (back2 (a := rows r) (b := itT p) ir kp.gd.im _) cal
def keepF (s : Str) : T → Bool
  | .tup (.str a :: _) => !(a == s)
  | _ => true
def dropR (s : Str) (r : List (Str × List T)) : List (Str × List T) := r.filter fun q => !(q.1 == s)
theorem keepF_map (s : Str) (r : List (Str × List T)) : ((r.map itT).filter (keepF s)).map (fun t => t) = (dropR s r).map itT := by
  unfold dropR
  rw [List.filter_map]
  simp only [List.map_map]
  rfl
theorem drop_item_ok (k : RowsOk n r) (hn : n ≤ 100) {s : Str} (ks : Tx s) : φ_drop_item [rows r, .str s] = if (dropR s r).length = r.length then .ex 0 (.str s) [some (rows r), some (.str s)] else .ok (rows (dropR s r)) [some (rows r), some (.str s)] := by
  have ir := it_im k
  have ln := k.ln
  let ρ0 : Rho := [some (rows r), some (.str s), none, none]
  let L : Lc := ⟨[3], (gN 3), (iSeq (eVar 0)), (some (bCmp .NotEq (eIx (eVar 3) (eInt 0)) (eVar 1))), (eVar 3)⟩
  have it : (iSeq (eVar 0)).sem ρ0 = .ok (r.map itT) ρ0 false false := i_seqT (τ := false) (o := .v (rows r)) (v_imm (t := rows r) rfl ir) rfl ir
  have lcm := lc_fmap (set := (gN 3).sem) (tt := L.tt) (te := L.el.sem) (vs := [3]) (ρ := ρ0) (p := keepF s) (f := fun t => t) (r.map itT) [] (fun u hu => by
    obtain ⟨q, hq, rfl⟩ := List.mem_map.mp hu
    let ρ1 : Rho := [some (rows r), some (.str s), none, some (itT q)]
    have cq : (bCmp .NotEq (eIx (eVar 3) (eInt 0)) (eVar 1)).sem ρ1 = .ok (!(q.1 == s)) ρ1 false :=
      b_cmp (τ1 := false) (τ2 := false) (o1 := .v (.str q.1)) (o2 := .v (.str s)) (x := .str q.1) (y := .str s) (ix_var (i := 3) (k := 0) (ts := .str q.1 :: q.2) rfl (k.it q hq).gd.im rfl) (v_imm rfl rfl) rfl rfl rfl rfl (by
        show (eqT _ _).map (!·) = _
        rw [eq_tx (k.it q hq).tx ks]; rfl)
    exact ⟨ρ1, rfl, cq, fun _ => v_imm rfl (k.it q hq).gd.im, rfl⟩) (by rw [List.length_map, sizeLine_eq]; simp only [List.length_nil]; omega)
  rw [List.nil_append, keepF_map] at lcm
  have im : T.imms ((dropR s r).map itT) = true := imms_of fun u hu => by
    obtain ⟨q, hq, rfl⟩ := List.mem_map.mp hu
    exact (k.it q (List.mem_filter.mp hq).1).gd.im
  have s1 : (sSet (gN 2) (eTuple (eLc L))).sem ρ0 = .nx [some (rows r), some (.str s), some (rows (dropR s r)), none] := s_set (e_tuple (e_lc (l := L) it rfl lcm (.inr rfl)) rfl rfl im) rfl
  let ρ : Rho := [some (rows r), some (.str s), some (rows (dropR s r)), none]
  have c : (bCmp .Eq (eLen (eVar 2)) (eLen (eVar 0))).sem ρ = .ok ((((dropR s r).map itT).length : Int) == ((r.map itT).length : Int)) ρ false :=
    b_cmp (τ1 := false) (τ2 := false) (o1 := .v (.int ((dropR s r).map itT).length)) (o2 := .v (.int (r.map itT).length)) (x := .int ((dropR s r).map itT).length) (y := .int (r.map itT).length) (e_lenT (v_imm (t := rows (dropR s r)) rfl im)) (e_lenT (v_imm (t := rows r) rfl ir)) rfl rfl rfl rfl (eq_ints _ _)
  rw [List.length_map, List.length_map] at c
  have cal := calm2 (a := rows r) (b := .str s) ir rfl b_drop_item.asg
  by_cases h : (dropR s r).length = r.length
  · rw [if_pos h]
    rw [show (((dropR s r).length : Int) == (r.length : Int)) = true by rw [h]; exact beq_self_eq_true _] at c
    exact fn_ex (b := b_drop_item) rfl ((b_nx s1).trans (b_ex ((i_t c).trans (b_ex (s_raise (τ := false) (v_imm (t := .str s) rfl rfl) rfl))))) (back2 (a := rows r) (b := .str s) ir rfl _) cal
  · rw [if_neg h]
    rw [show (((dropR s r).length : Int) == (r.length : Int)) = false by
      rw [beq_eq_false_iff_ne]; exact fun z => h (by omega)] at c
    exact fn_ret (b := b_drop_item) rfl ((b_nx s1).trans ((b_nx ((i_f c).trans rfl)).trans (b_ret (s_ret (τ := false) (v_imm (t := rows (dropR s r)) rfl im))))) (back2 (a := rows r) (b := .str s) ir rfl _) cal
end
end K81
set_option Elab.async false
set_option linter.all false
set_option maxRecDepth 100000
set_option maxHeartbeats 4000000
/-! k81: edit_tree; the own edit. -/
namespace Pv
open PySem L2
theorem e_kix {x : Str} {tb : List (Str × Int)} {i : Ex} {ρ : Rho} {z : Str} {v : Int} (h : i.sem ρ = .ok (.v (.str z)) ρ false) (hl : tb.lookup z = some v) : (eKIx x tb i).sem ρ = .ok (.v (.int v)) ρ false := by
  show opSem [i.sem] (f1 (tabT tb)) ρ = _
  unfold opSem
  rw [ev1 h rfl]
  simp only [f1, getO, tabT, hl, Option.map_some]
/-- x[j], x a list of plain things in a slot -/
theorem ix_li {i j : Nat} {ρ : Rho} {ts : List T} {u : T} (h : ρ[i]? = some (some (.lst ts))) (hk : ts[j]? = some u) (im : u.imm = true) : (eIx (eVar i) (eInt (j : Int))).sem ρ = .ok (.v u) ρ false := by
  obtain ⟨hlt, _⟩ := List.getElem?_eq_some_iff.mp hk
  have th : O.there ρ (.p i []) = true := by simp only [O.there, h]
  refine e_ix (τ1 := false) (τ2 := false) (o2 := .v (.int j)) (v_lst h) rfl (by simp [th, O.deep]) rfl (x := .lst ts) (y := .int j) (by simp only [getO, h, T.at]) rfl ?_
  simp only [ixO, ixN_nat hlt, hk, itemO, im, if_true]
theorem s_setixE {i0 : Nat} {j : Int} {a b : Ex} {ρ ρ1 : Rho} {t : T} {ts : List T} {k : Nat} {τ : Bool} (h : a.sem ρ = .ok (.v t) ρ1 τ) (hd : ρ1[i0]? = some (some (.lst ts))) (hj : b.sem ρ1 = .ok (.v (.int j)) ρ1 false) (hk : ixN ts.length j = some k) :
    (sSetIx (eVar i0) b a).sem ρ = .nx (ρ1.set i0 (some (.lst (ts.set k t)))) := by
  have ev : (eVar i0).sem ρ1 = .ok (.p i0 []) ρ1 false := v_lst hd
  have th : O.there ρ1 (.p i0 []) = true := by simp only [O.there, hd]
  have e : evL [a.sem, (eVar i0).sem, b.sem] ρ = .ok [.v t, .p i0 [], .v (.int j)] ρ1 (τ || (false || false)) := by
    have e2 : evL [(eVar i0).sem, b.sem] ρ1 = .ok [.p i0 [], .v (.int j)] ρ1 (false || false) := ev2 ev hj (by simp [th, O.deep]) rfl
    unfold evL
    rw [h]
    simp only
    rw [e2]
    simp only
    rw [if_neg (by simp [O.deep, O.there])]
  show effS (effSem 3 [a.sem, (eVar i0).sem, b.sem] setF) ρ = _
  unfold effS effSem
  rw [e]
  simp only [getOs, getO, hd, T.at]
  rw [if_pos ⟨rfl, rfl⟩]
  simp only [setF, hk, effFin, wb, hd, T.put]
theorem range_mid {a : Str} : ∀ (l1 l2 : List Str), a ∉ l1 → a ∉ l2 → (List.range (l1 ++ a :: l2).length).filter (fun k => (l1 ++ a :: l2).getD k "" == a) = [l1.length]
  | [], l2, _, h2 => by
    rw [List.nil_append, List.length_cons, List.range_succ_eq_map, List.filter_cons, if_pos (by simp)]
    congr 1
    rw [List.filter_map, List.map_eq_nil_iff, List.filter_eq_nil_iff]
    intro k hk
    have hk' := List.mem_range.mp hk
    simp only [Function.comp_apply, List.getD_cons_succ, beq_iff_eq]
    rw [List.getD_eq_getElem?_getD, List.getElem?_eq_getElem hk']
    exact fun z => h2 (z ▸ List.getElem_mem hk')
  | b :: l1, l2, h1, h2 => by
    have hb : b ≠ a := fun z => h1 (z ▸ List.mem_cons_self)
    have ih := range_mid l1 l2 (fun z => h1 (List.mem_cons_of_mem _ z)) h2
    rw [List.cons_append, List.length_cons, List.range_succ_eq_map, List.filter_cons, if_neg (by simpa using hb)]
    rw [List.filter_map]
    have e : ((fun k => (b :: (l1 ++ a :: l2)).getD k "" == a) ∘ Nat.succ) = fun k => (l1 ++ a :: l2).getD k "" == a := by
      funext k
      simp only [Function.comp_apply, List.getD_cons_succ]
    rw [e, ih]
    simp
theorem range_none {a : Str} {l : List Str} (h : a ∉ l) : (List.range l.length).filter (fun k => l.getD k "" == a) = [] := by
  rw [List.filter_eq_nil_iff]
  intro k hk
  have hk' := List.mem_range.mp hk
  simp only [beq_iff_eq]
  rw [List.getD_eq_getElem?_getD, List.getElem?_eq_getElem hk']
  exact fun z => h (z ▸ List.getElem_mem hk')
end Pv
namespace K81
open PySem L2 Pv
def Tr.setRow (t : Tr) : Nat → List (Str × List T) → Tr
  | 0, r => { t with r6 := r }
  | 1, r => { t with r7 := r }
  | _, r => { t with r8 := r }
abbrev Tr.ts (t : Tr) : List T := [t.x0, t.x1, t.x2, t.x3, t.x4, t.x5, rows t.r6, rows t.r7, rows t.r8, .str t.rule]
theorem Tr.set_at {t : Tr} {j : Nat} (hj : j < 3) (r : List (Str × List T)) : t.ts.set (6 + j) (rows r) = (t.setRow j r).ts := by
  obtain rfl | rfl | rfl : j = 0 ∨ j = 1 ∨ j = 2 := by omega
  all_goals rfl
theorem edT_im {e : Ed} (h : e.Ok) : (edT e).imm = true := by
  cases e with
  | rule s => rfl
  | put j p =>
    show T.imms [.str "put", .str (kS j), itT p] = true
    have : (itT p).imm = true := h.2.gd.im
    exact imms_of fun u hu => by
      simp only [List.mem_cons, List.not_mem_nil, or_false] at hu
      rcases hu with rfl | rfl | rfl
      · rfl
      · rfl
      · exact this
  | drop j s => rfl
section
variable {t : Tr} {n : Nat}
theorem tree_back (kt : t.Ok n) {e : Ed} (ke : e.Ok) (ρ : Rho) : back [t.tree, edT e] 0 ρ = [some t.tree, some (edT e)] := back2 kt.im (edT_im ke) ρ
theorem edit_rule (kt : t.Ok n) {s : Str} (ks : Tx s) : φ_edit_tree [t.tree, edT (.rule s)] = .ok ({ t with rule := s } : Tr).tree [some t.tree, some (edT (.rule s))] := by
  have s1 : (sSet (gN 2) (eIx (eVar 1) (eInt 0))).sem [some t.tree, some (edT (.rule s)), none, none] = .nx [some t.tree, some (edT (.rule s)), some (.str "rule"), none] := s_set (ix_var (i := 1) (k := 0) (ts := [.str "rule", .str s]) rfl rfl rfl) rfl
  let ρ : Rho := [some t.tree, some (edT (.rule s)), some (.str "rule"), none]
  have c : (bCmp .Eq (eVar 2) (eStr "rule")).sem ρ = .ok true ρ false := by kernel_rfl
  have wp := with_part_ok (ts := t.ts) kt.im (j := 9) (show 9 < 10 by decide) (show 10 ≤ 100 by decide) (p := .str s) rfl
  have cl : (eCall F_with_part (xs [(eVar 0), (eInt 9), (eIx (eVar 1) (eInt 1))])).sem ρ = .ok (.v ({ t with rule := s } : Tr).tree) ρ false :=
    e_callF (F := F_with_part) (φ := φ_with_part) rfl (ρ1 := ρ) (τ := false) (os := [.v t.tree, .v (.int 9), .v (.str s)]) (ts := [t.tree, .int 9, .str s]) (evc (τ1 := false) (τ2 := false) (v_imm rfl kt.im) (evc (ρ1 := ρ) (t := .int 9) (τ1 := false) (τ2 := false) rfl (evc (τ1 := false) (τ2 := false) (ix_var (i := 1) (k := 1) (ts := [.str "rule", .str s]) rfl rfl rfl) evn))) rfl rfl rfl wp rfl
  exact fn_ret (b := b_edit_tree) rfl ((b_nx s1).trans (b_ret ((i_t c).trans (b_ret (s_ret cl))))) (tree_back kt (e := .rule s) ks _) (calm2 kt.im (edT_im (e := .rule s) ks) _)
theorem kS_place {j : Nat} (hj : j < 3) : [(("wishes" : Str), (6 : Int)), ("shares", 7), ("policies", 8)].lookup (kS j) = some ((6 + j : Nat) : Int) := by
  obtain rfl | rfl | rfl : j = 0 ∨ j = 1 ∨ j = 2 := by omega
  all_goals rfl
theorem edit_put (kt : t.Ok n) (hn : n ≤ 100) {j : Nat} (hj : j < 3) {p : Str × List T} (kp : ItOk p) : φ_edit_tree [t.tree, edT (.put j p)] = .ok (t.setRow j (if p.1 ∈ nmsOf (t.row j) then putR p (t.row j) else t.row j ++ [p])).tree [some t.tree, some (edT (.put j p))] := by
  have ie := edT_im (e := .put j p) ⟨hj, kp⟩
  have s1 : (sSet (gN 2) (eIx (eVar 1) (eInt 0))).sem [some t.tree, some (edT (.put j p)), none, none] = .nx [some t.tree, some (edT (.put j p)), some (.str "put"), none] := s_set (ix_var (i := 1) (k := 0) (ts := [.str "put", .str (kS j), itT p]) rfl ie rfl) rfl
  let ρ : Rho := [some t.tree, some (edT (.put j p)), some (.str "put"), none]
  have c : (bCmp .Eq (eVar 2) (eStr "rule")).sem ρ = .ok false ρ false := by kernel_rfl
  have s2 : (sSet (gN 3) (eKIx "PLACES" [("wishes", 6), ("shares", 7), ("policies", 8)] (eIx (eVar 1) (eInt 1)))).sem ρ = .nx [some t.tree, some (edT (.put j p)), some (.str "put"), some (.int (6 + j : Nat))] := s_set (e_kix (ix_var (i := 1) (k := 1) (ts := [.str "put", .str (kS j), itT p]) rfl ie rfl) (kS_place hj)) rfl
  let ρ2 : Rho := [some t.tree, some (edT (.put j p)), some (.str "put"), some (.int (6 + j : Nat))]
  have c2 : (bCmp .Eq (eVar 2) (eStr "put")).sem ρ2 = .ok true ρ2 false := by kernel_rfl
  have kr := kt.row j
  have pi := put_item_ok kr hn kp
  generalize hr : (if p.1 ∈ nmsOf (t.row j) then putR p (t.row j) else t.row j ++ [p]) = r' at *
  have ir : T.imms (r'.map itT) = true := by
    rw [← hr]
    refine imms_of fun u hu => ?_
    obtain ⟨q, hq, rfl⟩ := List.mem_map.mp hu
    split at hq
    · obtain ⟨z, hz, rfl⟩ := List.mem_map.mp hq
      split
      · exact kp.gd.im
      · exact (kr.it z hz).gd.im
    · rcases List.mem_append.mp hq with hq | hq
      · exact (kr.it q hq).gd.im
      · have : q = p := by simpa using hq
        rw [this]; exact kp.gd.im
  have cp : (eCall F_put_item (xs [(eIx (eVar 0) (eVar 3)), (eIx (eVar 1) (eInt 2))])).sem ρ2 = .ok (.v (rows r')) ρ2 false :=
    e_callF (F := F_put_item) (φ := φ_put_item) rfl (ρ1 := ρ2) (τ := false) (os := [.v (rows (t.row j)), .v (itT p)]) (ts := [rows (t.row j), itT p]) (evc (τ1 := false) (τ2 := false) (ix_vv (i := 0) (j := 3) (k := 6 + j) (ts := t.ts) rfl kt.im rfl (Tr.at hj)) (evc (τ1 := false) (τ2 := false) (ix_var (i := 1) (k := 2) (ts := [.str "put", .str (kS j), itT p]) rfl ie rfl) evn)) rfl rfl rfl pi rfl
  have wp := with_part_ok (ts := t.ts) kt.im (j := 6 + j) (show 6 + j < 10 by omega) (show 10 ≤ 100 by decide) (p := rows r') ir
  rw [Tr.set_at hj] at wp
  have cl : (eCall F_with_part (xs [(eVar 0), (eVar 3), (eCall F_put_item (xs [(eIx (eVar 0) (eVar 3)), (eIx (eVar 1) (eInt 2))]))])).sem ρ2 = .ok (.v (t.setRow j r').tree) ρ2 false :=
    e_callF (F := F_with_part) (φ := φ_with_part) rfl (ρ1 := ρ2) (τ := false) (os := [.v t.tree, .v (.int (6 + j : Nat)), .v (rows r')]) (ts := [t.tree, .int (6 + j : Nat), rows r']) (evc (τ1 := false) (τ2 := false) (v_imm rfl kt.im) (evc (τ1 := false) (τ2 := false) (v_imm (i := 3) rfl rfl) (evc (τ1 := false) (τ2 := false) cp evn))) rfl rfl rfl wp rfl
  exact fn_ret (b := b_edit_tree) rfl ((b_nx s1).trans ((b_nx ((i_f c).trans rfl)).trans ((b_nx s2).trans (b_ret ((i_t c2).trans (b_ret (s_ret cl))))))) (tree_back kt (e := .put j p) ⟨hj, kp⟩ _) (calm2 kt.im ie _)
theorem edit_drop (kt : t.Ok n) (hn : n ≤ 100) {j : Nat} (hj : j < 3) {s : Str} (ks : Tx s) : φ_edit_tree [t.tree, edT (.drop j s)] = if (dropR s (t.row j)).length = (t.row j).length then .ex 0 (.str s) [some t.tree, some (edT (.drop j s))] else .ok (t.setRow j (dropR s (t.row j))).tree [some t.tree, some (edT (.drop j s))] := by
  have ie := edT_im (e := .drop j s) ⟨hj, ks⟩
  have s1 : (sSet (gN 2) (eIx (eVar 1) (eInt 0))).sem [some t.tree, some (edT (.drop j s)), none, none] = .nx [some t.tree, some (edT (.drop j s)), some (.str "drop"), none] := s_set (ix_var (i := 1) (k := 0) (ts := [.str "drop", .str (kS j), .str s]) rfl ie rfl) rfl
  let ρ : Rho := [some t.tree, some (edT (.drop j s)), some (.str "drop"), none]
  have c : (bCmp .Eq (eVar 2) (eStr "rule")).sem ρ = .ok false ρ false := by kernel_rfl
  have s2 : (sSet (gN 3) (eKIx "PLACES" [("wishes", 6), ("shares", 7), ("policies", 8)] (eIx (eVar 1) (eInt 1)))).sem ρ = .nx [some t.tree, some (edT (.drop j s)), some (.str "drop"), some (.int (6 + j : Nat))] := s_set (e_kix (ix_var (i := 1) (k := 1) (ts := [.str "drop", .str (kS j), .str s]) rfl ie rfl) (kS_place hj)) rfl
  let ρ2 : Rho := [some t.tree, some (edT (.drop j s)), some (.str "drop"), some (.int (6 + j : Nat))]
  have c2 : (bCmp .Eq (eVar 2) (eStr "put")).sem ρ2 = .ok false ρ2 false := by kernel_rfl
  have kr := kt.row j
  have pi := drop_item_ok kr hn ks
  have ev : evL (xs [(eIx (eVar 0) (eVar 3)), (eIx (eVar 1) (eInt 2))]).sems ρ2 = .ok [.v (rows (t.row j)), .v (.str s)] ρ2 false := evc (τ1 := false) (τ2 := false) (ix_vv (i := 0) (j := 3) (k := 6 + j) (ts := t.ts) rfl kt.im rfl (Tr.at hj)) (evc (τ1 := false) (τ2 := false) (ix_var (i := 1) (k := 2) (ts := [.str "drop", .str (kS j), .str s]) rfl ie rfl) evn)
  have pre : ∀ {r : RS}, (blk [sRet (eCall F_with_part (xs [(eVar 0), (eVar 3), (eCall F_drop_item (xs [(eIx (eVar 0) (eVar 3)), (eIx (eVar 1) (eInt 2))]))]))]).sem ρ2 = r → b_edit_tree.sem [some t.tree, some (edT (.drop j s)), none, none] = r := fun h => (b_nx s1).trans ((b_nx ((i_f c).trans rfl)).trans ((b_nx s2).trans ((b_nx ((i_f c2).trans rfl)).trans h)))
  by_cases h : (dropR s (t.row j)).length = (t.row j).length
  · rw [if_pos h] at pi ⊢
    have cp : (eCall F_drop_item (xs [(eIx (eVar 0) (eVar 3)), (eIx (eVar 1) (eInt 2))])).sem ρ2 = .ex 0 (.str s) ρ2 :=
      e_call_ex (F := F_drop_item) (ρ1 := ρ2) (τ := false) (os := [.v (rows (t.row j)), .v (.str s)]) (ts := [rows (t.row j), .str s]) ev rfl rfl rfl pi rfl
    have cl : (eCall F_with_part (xs [(eVar 0), (eVar 3), (eCall F_drop_item (xs [(eIx (eVar 0) (eVar 3)), (eIx (eVar 1) (eInt 2))]))])).sem ρ2 = .ex 0 (.str s) ρ2 :=
      e_call_exA (evc_ex (τ1 := false) (v_imm (t := t.tree) rfl kt.im) (evc_ex (τ1 := false) (v_imm (i := 3) (ρ := ρ2) (t := .int (6 + j : Nat)) rfl rfl) (ev_ex cp)))
    exact fn_ex (b := b_edit_tree) rfl (pre (b_ex (s_ret_ex cl))) (tree_back kt (e := .drop j s) ⟨hj, ks⟩ _) (calm2 kt.im ie _)
  · rw [if_neg h] at pi ⊢
    have cp : (eCall F_drop_item (xs [(eIx (eVar 0) (eVar 3)), (eIx (eVar 1) (eInt 2))])).sem ρ2 = .ok (.v (rows (dropR s (t.row j)))) ρ2 false :=
      e_callF (F := F_drop_item) (φ := φ_drop_item) rfl (ρ1 := ρ2) (τ := false) (os := [.v (rows (t.row j)), .v (.str s)]) (ts := [rows (t.row j), .str s]) ev rfl rfl rfl pi rfl
    have im : T.imms ((dropR s (t.row j)).map itT) = true := imms_of fun u hu => by
      obtain ⟨q, hq, rfl⟩ := List.mem_map.mp hu
      exact (kr.it q (List.mem_filter.mp hq).1).gd.im
    have wp := with_part_ok (ts := t.ts) kt.im (j := 6 + j) (show 6 + j < 10 by omega) (show 10 ≤ 100 by decide) (p := rows (dropR s (t.row j))) im
    rw [Tr.set_at hj] at wp
    have cl : (eCall F_with_part (xs [(eVar 0), (eVar 3), (eCall F_drop_item (xs [(eIx (eVar 0) (eVar 3)), (eIx (eVar 1) (eInt 2))]))])).sem ρ2 = .ok (.v (t.setRow j (dropR s (t.row j))).tree) ρ2 false :=
      e_callF (F := F_with_part) (φ := φ_with_part) rfl (ρ1 := ρ2) (τ := false) (os := [.v t.tree, .v (.int (6 + j : Nat)), .v (rows (dropR s (t.row j)))]) (ts := [t.tree, .int (6 + j : Nat), rows (dropR s (t.row j))]) (evc (τ1 := false) (τ2 := false) (v_imm rfl kt.im) (evc (τ1 := false) (τ2 := false) (v_imm (i := 3) rfl rfl) (evc (τ1 := false) (τ2 := false) cp evn))) rfl rfl rfl wp rfl
    exact fn_ret (b := b_edit_tree) rfl (pre (b_ret (s_ret cl))) (tree_back kt (e := .drop j s) ⟨hj, ks⟩ _) (calm2 kt.im ie _)
end
end K81
set_option Elab.async false
set_option linter.all false
set_option maxRecDepth 100000
set_option maxHeartbeats 4000000
/-! k81: the own edit. -/
namespace K81
open PySem L2 Pv
section
variable {t : Tr} {n : Nat}
abbrev rD (t e : T) (parts place items name at_ : Option T) : Rho := [some t, some e, parts, place, items, name, at_, none]
def duW (s : Str) : Bx := bCmp .Eq (eIx (eVar 1) (eInt 0)) (eStr s)
def duL : Lc := ⟨[7], (gN 7), (iRange1 (eLen (eVar 4))), (some (bCmp .Eq (eIx (eIx (eVar 4) (eVar 7)) (eInt 0)) (eVar 5))), (eVar 7)⟩
def duC : Sx := sIf (bAnd [(bCmp .Eq (eIx (eVar 1) (eInt 0)) (eStr "put")), (bCmp .Eq (eLen (eVar 6)) (eInt 0))]) (blk [sExpr (eAppend (eVar 4) (eIx (eVar 1) (eInt 2)))]) (blk [sIf (bCmp .Eq (eIx (eVar 1) (eInt 0)) (eStr "put")) (blk [sSetIx (eVar 4) (eIx (eVar 6) (eInt 0)) (eIx (eVar 1) (eInt 2))]) (blk [sIf (bCmp .Eq (eLen (eVar 6)) (eInt 0)) (blk [sRet eNon]) (blk [sExpr (ePopAt (eVar 4) (eIx (eVar 6) (eInt 0)))])])])
/-- the word of an edit -/
theorem duW_ok {a b : Str} {us : List T} (im : (T.tup (.str a :: us)).imm = true) {k : Bool} (hk : eqT (.str a) (.str b) = some k) {tr : T} {parts place items name at_ : Option T} : (duW b).sem (rD tr (.tup (.str a :: us)) parts place items name at_) = .ok k (rD tr (.tup (.str a :: us)) parts place items name at_) false :=
  b_cmp (τ1 := false) (τ2 := false) (o1 := .v (.str a)) (o2 := .v (.str b)) (x := .str a) (y := .str b) (ix_var (i := 1) (k := 0) (ts := .str a :: us) rfl im rfl) rfl rfl rfl rfl rfl hk
theorem parts_ok (kt : t.Ok n) (e : T) : (sSet (gN 2) (eList (eVar 0))).sem (rD t.tree e none none none none none) = .nx (rD t.tree e (some (.lst t.ts)) none none none none) := by
  refine s_set (ρ1 := rD t.tree e none none none none none) (t := .lst t.ts) (τ := false) ?_ rfl
  show opSem [(eVar 0).sem] (f1 listT) _ = _
  unfold opSem
  rw [ev1 (v_imm (t := t.tree) rfl kt.im) rfl]
  simp only [f1, getO, listT]
  rw [if_pos (show T.imms t.ts = true from kt.im)]
theorem due_rule (kt : t.Ok n) {s : Str} (ks : Tx s) : φ_law_due [t.tree, edT (.rule s)] = .ok ({ t with rule := s } : Tr).tree [some t.tree, some (edT (.rule s))] := by
  have s1 := parts_ok kt (edT (.rule s))
  have c := duW_ok (a := "rule") (b := "rule") (us := [.str s]) (k := true) rfl (by kernel_rfl) (tr := t.tree) (parts := some (.lst t.ts)) (place := none) (items := none) (name := none) (at_ := none)
  have s2 := s_setix (i0 := 2) (j := 9) (k := 9) (ts := t.ts) (a := eIx (eVar 1) (eInt 1)) (ρ := rD t.tree (edT (.rule s)) (some (.lst t.ts)) none none none none) (ix_var (i := 1) (k := 1) (ts := [.str "rule", .str s]) rfl rfl rfl) rfl rfl
  have im : T.imms ({ t with rule := s } : Tr).ts = true := imms_of fun u hu => by
    have h := imms_mem (show T.imms t.ts = true from kt.im)
    simp only [List.mem_cons, List.not_mem_nil, or_false] at hu h
    rcases hu with rfl | rfl | rfl | rfl | rfl | rfl | rfl | rfl | rfl | rfl
    · exact kt.x0.im
    · exact kt.x1.im
    · exact kt.x2.im
    · exact kt.x3.im
    · exact kt.x4.im
    · exact kt.x5.im
    · exact rows_im kt.r6
    · exact rows_im kt.r7
    · exact rows_im kt.r8
    · rfl
  have s3 : (sRet (eTuple (eVar 2))).sem (rD t.tree (edT (.rule s)) (some (.lst ({ t with rule := s } : Tr).ts)) none none none none) = .ret ({ t with rule := s } : Tr).tree _ := s_ret (e_tuple (v_lst rfl) rfl rfl im)
  exact fn_ret (b := b_law_due) rfl ((b_nx s1).trans (b_ret ((i_t c).trans ((b_nx s2).trans (b_ret s3))))) (tree_back kt (e := .rule s) ks _) (calm2 kt.im (edT_im (e := .rule s) ks) _)
/-- the places of a name -/
def atL (s : Str) (l : List Str) : List Nat := (List.range l.length).filter fun k => l.getD k "" == s
def atP (s : Str) (l : List Str) : T → Bool
  | .int k => l.getD k.toNat "" == s
  | _ => false
theorem at_eq (s : Str) (l : List Str) : ((rangeL 0 (l.length : Nat)).filter (atP s l)).map (fun u => u) = (atL s l).map nI := by
  rw [List.map_id']
  unfold rangeL atL
  rw [List.filter_map, show ((l.length : Nat) : Int) - 0 = (l.length : Nat) by omega, Int.toNat_natCast]
  have e : (atP s l ∘ fun (k : Nat) => T.int (0 + (k : Int))) = fun k => l.getD k "" == s := by
    funext k
    show (l.getD (0 + (k : Int)).toNat "" == s) = _
    rw [Int.zero_add, Int.toNat_natCast]
  rw [e]
  exact List.map_congr_left fun k _ => by rw [Int.zero_add]
theorem due_pre (kt : t.Ok n) (hn : n ≤ 100) {j : Nat} (hj : j < 3) {a : Str} {us : List T} (im : (T.tup (.str a :: .str (kS j) :: us)).imm = true) (hw : eqT (.str a) (.str "rule") = some false) {s : Str} (ks : Tx s)
    (hname : ∀ parts place items, (eIf (bCmp .Eq (eIx (eVar 1) (eInt 0)) (eStr "put")) (eIx (eIx (eVar 1) (eInt 2)) (eInt 0)) (eIx (eVar 1) (eInt 2))).sem (rD t.tree (.tup (.str a :: .str (kS j) :: us)) parts place items none none) = .ok (.v (.str s)) (rD t.tree (.tup (.str a :: .str (kS j) :: us)) parts place items none none) false) {r : RS}
    (h : (blk [duC, sSetIx (eVar 2) (eVar 3) (eTuple (eVar 4)), sRet (eTuple (eVar 2))]).sem (rD t.tree (.tup (.str a :: .str (kS j) :: us)) (some (.lst t.ts)) (some (.int (6 + j : Nat))) (some (.lst ((t.row j).map itT))) (some (.str s)) (some (.lst ((atL s (nmsOf (t.row j))).map nI)))) = r) :
    b_law_due.sem (rD t.tree (.tup (.str a :: .str (kS j) :: us)) none none none none none) = r := by
  let E : T := .tup (.str a :: .str (kS j) :: us)
  have kr := kt.row j
  have ln := kr.ln
  have ir := it_im kr
  have s1 := parts_ok kt E
  have c := duW_ok (a := a) (b := "rule") (us := .str (kS j) :: us) im hw (tr := t.tree) (parts := some (.lst t.ts)) (place := none) (items := none) (name := none) (at_ := none)
  have v1 : (eIx (eVar 1) (eInt 1)).sem (rD t.tree E (some (.lst t.ts)) none none none none) = .ok (.v (.str (kS j))) (rD t.tree E (some (.lst t.ts)) none none none none) false := ix_var (i := 1) (k := 1) (ts := .str a :: .str (kS j) :: us) rfl im rfl
  have s2 : (sSet (gN 3) (eBin .Add (eInt 6) (eIndex edK (eIx (eVar 1) (eInt 1))))).sem (rD t.tree E (some (.lst t.ts)) none none none none) = .nx (rD t.tree E (some (.lst t.ts)) (some (.int (6 + j : Nat))) none none none) := by
    have ix : (eIndex edK (eIx (eVar 1) (eInt 1))).sem (rD t.tree E (some (.lst t.ts)) none none none none) = .ok (.v (.int j)) (rD t.tree E (some (.lst t.ts)) none none none none) false := by
      show opSem [kindSem isLst edK.sem, (eIx (eVar 1) (eInt 1)).sem] (f2 indexT) _ = _
      unfold opSem
      rw [ev2 (o1 := .v (.lst [.str "wishes", .str "shares", .str "policies"])) (ρ1 := rD t.tree E (some (.lst t.ts)) none none none none) (τ1 := false) rfl v1 rfl rfl]
      have : indexT (.lst [.str "wishes", .str "shares", .str "policies"]) (.str (kS j)) = some (.int j) := by
        obtain rfl | rfl | rfl : j = 0 ∨ j = 1 ∨ j = 2 := by omega
        all_goals kernel_rfl
      simp only [f2, getO, this]
      rfl
    exact s_set (e_addN (a := eInt 6) (x := 6) (τ1 := false) (ρ1 := rD t.tree E (some (.lst t.ts)) none none none none) rfl ix) rfl
  have s3 : (sSet (gN 4) (eList (eIx (eVar 2) (eVar 3)))).sem (rD t.tree E (some (.lst t.ts)) (some (.int (6 + j : Nat))) none none none) = .nx (rD t.tree E (some (.lst t.ts)) (some (.int (6 + j : Nat))) (some (.lst ((t.row j).map itT))) none none) := by
    refine s_set (ρ1 := rD t.tree E (some (.lst t.ts)) (some (.int (6 + j : Nat))) none none none) (t := .lst ((t.row j).map itT)) (τ := false) ?_ rfl
    show opSem [(eIx (eVar 2) (eVar 3)).sem] (f1 listT) _ = _
    unfold opSem
    rw [ev1 (ix_lv (i := 2) (j := 3) (k := 6 + j) (ts := t.ts) (u := rows (t.row j)) rfl rfl (Tr.at hj) ir) rfl]
    simp only [f1, getO, listT]
    rw [if_pos ir]
  have s4 : (sSet (gN 5) (eIf (bCmp .Eq (eIx (eVar 1) (eInt 0)) (eStr "put")) (eIx (eIx (eVar 1) (eInt 2)) (eInt 0)) (eIx (eVar 1) (eInt 2)))).sem (rD t.tree E (some (.lst t.ts)) (some (.int (6 + j : Nat))) (some (.lst ((t.row j).map itT))) none none) = .nx (rD t.tree E (some (.lst t.ts)) (some (.int (6 + j : Nat))) (some (.lst ((t.row j).map itT))) (some (.str s)) none) := s_set (hname _ _ _) rfl
  let ρ : Rho := rD t.tree E (some (.lst t.ts)) (some (.int (6 + j : Nat))) (some (.lst ((t.row j).map itT))) (some (.str s)) none
  have rg := rg1 (a := eLen (eVar 4)) (len_var (i := 4) (ρ := ρ) (ts := (t.row j).map itT) rfl) (small62_of ⟨by omega, by rw [List.length_map]; omega⟩)
  have lcm := lc_fmap (set := (gN 7).sem) (tt := duL.tt) (te := duL.el.sem) (vs := [7]) (ρ := ρ) (p := atP s (nmsOf (t.row j))) (f := fun u => u) (rangeL 0 (((t.row j).map itT).length : Nat)) [] (fun u hu => by
    obtain ⟨k, hk0⟩ := List.getElem?_of_mem hu
    obtain ⟨rfl, hk⟩ := rangeL_get hk0
    rw [List.length_map] at hk
    let ρ1 : Rho := [some t.tree, some E, some (.lst t.ts), some (.int (6 + j : Nat)), some (.lst ((t.row j).map itT)), some (.str s), none, some (.int k)]
    have kq := kr.it _ (List.getElem_mem hk)
    have g : (eIx (eIx (eVar 4) (eVar 7)) (eInt 0)).sem ρ1 = .ok (.v (.str (t.row j)[k].1)) ρ1 false :=
      ix_tup (τ1 := false) (τ2 := false) (k := 0) (ts := .str (t.row j)[k].1 :: (t.row j)[k].2) (ix_lv (i := 4) (j := 7) (k := k) (ts := (t.row j).map itT) (u := itT (t.row j)[k]) rfl rfl (by rw [List.getElem?_map, List.getElem?_eq_getElem hk]; rfl) kq.gd.im) rfl rfl rfl
    have e1 : (nmsOf (t.row j)).getD k "" = (t.row j)[k].1 := by
      unfold nmsOf
      rw [List.getD_eq_getElem?_getD, List.getElem?_map, List.getElem?_eq_getElem hk]; rfl
    refine ⟨ρ1, rfl, ?_, fun _ => v_imm rfl rfl, rfl⟩
    show (bCmp .Eq (eIx (eIx (eVar 4) (eVar 7)) (eInt 0)) (eVar 5)).sem ρ1 = .ok ((nmsOf (t.row j)).getD ((k : Int).toNat) "" == s) ρ1 false
    rw [Int.toNat_natCast, e1]
    exact b_cmp (τ1 := false) (τ2 := false) (o1 := .v (.str (t.row j)[k].1)) (o2 := .v (.str s)) (x := .str (t.row j)[k].1) (y := .str s) g (v_imm rfl rfl) rfl rfl rfl rfl (eq_tx kq.tx ks)) (by rw [rangeL_len, List.length_map, sizeLine_eq]; simp only [List.length_nil]; omega)
  have el : ((t.row j).map itT).length = (nmsOf (t.row j)).length := by unfold nmsOf; rw [List.length_map, List.length_map]
  rw [List.nil_append, el, at_eq] at lcm
  rw [el] at rg
  have s5 : (sSetLc 6 duL).sem ρ = .nx (rD t.tree E (some (.lst t.ts)) (some (.int (6 + j : Nat))) (some (.lst ((t.row j).map itT))) (some (.str s)) (some (.lst ((atL s (nmsOf (t.row j))).map nI)))) := s_setLc (e_lc (l := duL) rg rfl lcm (.inr rfl)) (show 6 < 8 by decide)
  exact (b_nx s1).trans ((b_nx ((i_f c).trans rfl)).trans ((b_nx s2).trans ((b_nx s3).trans ((b_nx s4).trans ((b_nx s5).trans h)))))
end
end K81
set_option Elab.async false
set_option linter.all false
set_option maxRecDepth 100000
set_option maxHeartbeats 4000000
/-! k81: the own edit, its end. -/
namespace K81
open PySem L2 Pv
/-! rows, plainly -/
theorem row_split {s : Str} : ∀ {r : List (Str × List T)}, s ∈ nmsOf r → (nmsOf r).Nodup → ∃ r1 q r2, r = r1 ++ q :: r2 ∧ q.1 = s ∧ s ∉ nmsOf r1 ∧ s ∉ nmsOf r2
  | [], h, _ => by cases h
  | q :: r, h, nd => by
    have nd' : q.1 ∉ nmsOf r ∧ (nmsOf r).Nodup := List.nodup_cons.mp nd
    by_cases e : q.1 = s
    · exact ⟨[], q, r, rfl, e, (fun z => by cases z), e ▸ nd'.1⟩
    · have h' : s ∈ nmsOf r := by
        have : s ∈ q.1 :: nmsOf r := h
        rcases List.mem_cons.mp this with z | z
        · exact absurd z.symm e
        · exact z
      obtain ⟨r1, q', r2, rfl, h2, h3, h4⟩ := row_split h' nd'.2
      exact ⟨q :: r1, q', r2, rfl, h2, fun z => by
        have : s ∈ q.1 :: nmsOf r1 := z
        rcases List.mem_cons.mp this with z | z
        · exact e z.symm
        · exact h3 z, h4⟩
theorem nms_app (a b : List (Str × List T)) : nmsOf (a ++ b) = nmsOf a ++ nmsOf b := by unfold nmsOf; rw [List.map_append]
theorem nms_cons (q : Str × List T) (a : List (Str × List T)) : nmsOf (q :: a) = q.1 :: nmsOf a := rfl
theorem at_mid {s : Str} {r1 r2 : List (Str × List T)} {q : Str × List T} (h : q.1 = s) (h1 : s ∉ nmsOf r1) (h2 : s ∉ nmsOf r2) : atL s (nmsOf (r1 ++ q :: r2)) = [r1.length] := by
  unfold atL
  rw [nms_app, nms_cons, h, range_mid _ _ h1 h2]
  unfold nmsOf
  rw [List.length_map]
theorem at_none {s : Str} {r : List (Str × List T)} (h : s ∉ nmsOf r) : atL s (nmsOf r) = [] := range_none h
theorem put_none {p : Str × List T} : ∀ {r : List (Str × List T)}, p.1 ∉ nmsOf r → putR p r = r
  | [], _ => rfl
  | q :: r, h => by
    have h1 : q.1 ≠ p.1 := fun z => h (by rw [nms_cons, z]; exact List.mem_cons_self)
    have ih := put_none (p := p) (r := r) fun z => h (List.mem_cons_of_mem _ z)
    unfold putR at ih ⊢
    rw [List.map_cons, ih, if_neg (by simpa using h1)]
theorem put_mid {p q : Str × List T} {r1 r2 : List (Str × List T)} (h : q.1 = p.1) (h1 : p.1 ∉ nmsOf r1) (h2 : p.1 ∉ nmsOf r2) : putR p (r1 ++ q :: r2) = r1 ++ p :: r2 := by
  have e1 := put_none h1
  have e2 := put_none h2
  unfold putR at e1 e2 ⊢
  rw [List.map_append, List.map_cons, e1, e2, if_pos (by rw [h]; exact beq_self_eq_true _)]
theorem drop_none {s : Str} {r : List (Str × List T)} (h : s ∉ nmsOf r) : dropR s r = r := by
  unfold dropR
  rw [List.filter_eq_self]
  intro q hq
  have : q.1 ≠ s := fun z => h (z ▸ List.mem_map.mpr ⟨q, hq, rfl⟩)
  simpa using this
theorem drop_mid {s : Str} {q : Str × List T} {r1 r2 : List (Str × List T)} (h : q.1 = s) (h1 : s ∉ nmsOf r1) (h2 : s ∉ nmsOf r2) : dropR s (r1 ++ q :: r2) = r1 ++ r2 := by
  have e1 := drop_none h1
  have e2 := drop_none h2
  unfold dropR at e1 e2 ⊢
  rw [List.filter_append, List.filter_cons, e1, e2, if_neg (by rw [h]; simp)]
theorem drop_len {s : Str} {r : List (Str × List T)} (nd : (nmsOf r).Nodup) : (dropR s r).length = r.length ↔ s ∉ nmsOf r := by
  constructor
  · intro e h
    obtain ⟨r1, q, r2, rfl, h2, h3, h4⟩ := row_split h nd
    rw [drop_mid h2 h3 h4] at e
    simp only [List.length_append, List.length_cons] at e
    omega
  · intro h
    rw [drop_none h]
/-! the own edit -/
section
variable {t : Tr} {n : Nat}
def duE : List Sx := [sSetIx (eVar 2) (eVar 3) (eTuple (eVar 4)), sRet (eTuple (eVar 2))]
theorem due_fin (kt : t.Ok n) {j : Nat} (hj : j < 3) {r' : List (Str × List T)} (im : T.imms (r'.map itT) = true) (E : T) (name at_ : Option T) : ∃ ρ, (blk duE).sem (rD t.tree E (some (.lst t.ts)) (some (.int (6 + j : Nat))) (some (.lst (r'.map itT))) name at_) = .ret (t.setRow j r').tree ρ ∧ ρ[0]? = some (some t.tree) ∧ ρ[1]? = some (some E) := by
  have s1 := s_setixV (i0 := 2) (j0 := 3) (j := ((6 + j : Nat) : Int)) (k := 6 + j) (ts := t.ts) (e_tuple (a := eVar 4) (v_lst (i := 4) (ρ := rD t.tree E (some (.lst t.ts)) (some (.int (6 + j : Nat))) (some (.lst (r'.map itT))) name at_) (ts := r'.map itT) rfl) rfl rfl im) rfl rfl (ixN_nat (show 6 + j < 10 by omega))
  rw [show T.tup (r'.map itT) = rows r' from rfl, Tr.set_at hj] at s1
  have im2 : T.imms (t.setRow j r').ts = true := by
    rw [← Tr.set_at hj]
    have h := imms_mem (show T.imms t.ts = true from kt.im)
    exact imms_of fun u hu => by
      rcases List.mem_or_eq_of_mem_set hu with hu | rfl
      · exact h u hu
      · exact im
  exact ⟨_, (b_nx s1).trans (b_ret (s_ret (e_tuple (v_lst (i := 2) rfl) rfl rfl im2))), rfl, rfl⟩
theorem two_back {a b : T} (ha : a.imm = true) (hb : b.imm = true) (ρ : Rho) : back [a, b] 0 ρ = [some a, some b] := back2 ha hb ρ
theorem due_put (kt : t.Ok n) (hn : n ≤ 100) {j : Nat} (hj : j < 3) {p : Str × List T} (kp : ItOk p) : φ_law_due [t.tree, edT (.put j p)] = .ok (t.setRow j (if p.1 ∈ nmsOf (t.row j) then putR p (t.row j) else t.row j ++ [p])).tree [some t.tree, some (edT (.put j p))] := by
  have ie := edT_im (e := .put j p) ⟨hj, kp⟩
  have kr := kt.row j
  have ln := kr.ln
  have hw : ∀ {parts place items name at_ : Option T}, (duW "put").sem (rD t.tree (edT (.put j p)) parts place items name at_) = .ok true (rD t.tree (edT (.put j p)) parts place items name at_) false := duW_ok (a := "put") (b := "put") (us := [.str (kS j), itT p]) (k := true) ie (by kernel_rfl)
  have it2 : ∀ {parts place items name at_ : Option T}, (eIx (eVar 1) (eInt 2)).sem (rD t.tree (edT (.put j p)) parts place items name at_) = .ok (.v (itT p)) (rD t.tree (edT (.put j p)) parts place items name at_) false := ix_var (i := 1) (k := 2) (ts := [.str "put", .str (kS j), itT p]) rfl ie rfl
  have key : ∃ ρ, (blk (duC :: duE)).sem (rD t.tree (edT (.put j p)) (some (.lst t.ts)) (some (.int (6 + j : Nat))) (some (.lst ((t.row j).map itT))) (some (.str p.1)) (some (.lst ((atL p.1 (nmsOf (t.row j))).map nI)))) = .ret (t.setRow j (if p.1 ∈ nmsOf (t.row j) then putR p (t.row j) else t.row j ++ [p])).tree ρ := by
    have c2 := b_cmp (op := .Eq) (b := eInt 0) (o2 := .v (.int 0)) (y := .int 0) (τ2 := false) (len_var (i := 6) (ρ := rD t.tree (edT (.put j p)) (some (.lst t.ts)) (some (.int (6 + j : Nat))) (some (.lst ((t.row j).map itT))) (some (.str p.1)) (some (.lst ((atL p.1 (nmsOf (t.row j))).map nI)))) rfl) rfl rfl rfl rfl rfl (eq_ints _ _)
    by_cases h : p.1 ∈ nmsOf (t.row j)
    · rw [if_pos h]
      obtain ⟨r1, q, r2, e, h2, h3, h4⟩ := row_split h kr.nd
      have ea : atL p.1 (nmsOf (t.row j)) = [r1.length] := by rw [e]; exact at_mid h2 h3 h4
      rw [ea] at c2 ⊢
      have ep : putR p (t.row j) = (t.row j).set r1.length p := by
        rw [e, put_mid h2 h3 h4]
        simp
      have im : T.imms (((t.row j).set r1.length p).map itT) = true := imms_of fun u hu => by
        obtain ⟨z, hz, rfl⟩ := List.mem_map.mp hu
        rcases List.mem_or_eq_of_mem_set hz with hz | rfl
        · exact (kr.it z hz).gd.im
        · exact kp.gd.im
      have hlt : r1.length < ((t.row j).map itT).length := by rw [List.length_map, e]; simp
      have st := s_setixE (i0 := 4) (a := eIx (eVar 1) (eInt 2)) (b := eIx (eVar 6) (eInt 0)) (ts := (t.row j).map itT) (k := r1.length) (it2 (parts := some (.lst t.ts)) (place := some (.int (6 + j : Nat))) (items := some (.lst ((t.row j).map itT))) (name := some (.str p.1)) (at_ := some (.lst [nI r1.length]))) rfl (ix_li (i := 6) (j := 0) (ts := [nI r1.length]) rfl rfl rfl) (ixN_nat hlt)
      rw [← List.map_set, ← ep] at st
      rw [← ep] at im
      obtain ⟨ρ, f1, _⟩ := due_fin kt hj im (edT (.put j p)) (some (.str p.1)) (some (.lst [nI r1.length]))
      exact ⟨ρ, (b_nx ((i_f (and_t hw (and_1.trans c2))).trans ((b_nx ((i_t hw).trans ((b_nx st).trans b_nil))).trans b_nil))).trans f1⟩
    · rw [if_neg h]
      have ea : atL p.1 (nmsOf (t.row j)) = [] := at_none h
      rw [ea] at c2 ⊢
      have st := s_app (i := 4) (ts := (t.row j).map itT) (ts1 := (t.row j).map itT) (a := eIx (eVar 1) (eInt 2)) (ρ := rD t.tree (edT (.put j p)) (some (.lst t.ts)) (some (.int (6 + j : Nat))) (some (.lst ((t.row j).map itT))) (some (.str p.1)) (some (.lst (([] : List Nat).map nI)))) rfl it2 rfl (by rw [List.length_map, sizeLine_eq]; omega)
      rw [show (t.row j).map itT ++ [itT p] = (t.row j ++ [p]).map itT by simp] at st
      have im : T.imms ((t.row j ++ [p]).map itT) = true := by
        rw [List.map_append]
        exact imms_app (it_im kr) (by simp only [List.map_cons, List.map_nil, T.imms, Bool.and_true]; exact kp.gd.im)
      obtain ⟨ρ, f1, _⟩ := due_fin kt hj im (edT (.put j p)) (some (.str p.1)) (some (.lst (([] : List Nat).map nI)))
      exact ⟨ρ, (b_nx ((i_t (and_t hw (and_1.trans c2))).trans ((b_nx st).trans b_nil))).trans f1⟩
  obtain ⟨ρ, f⟩ := key
  exact fn_ret (b := b_law_due) rfl (due_pre kt hn hj (a := "put") (us := [itT p]) ie (by kernel_rfl) kp.tx (fun parts place items => e_if (k := true) (τ := false) (τ2 := false) hw ((if_pos rfl).trans (ix_tup (τ1 := false) (τ2 := false) (k := 0) (ts := .str p.1 :: p.2) it2 rfl rfl rfl))) f) (two_back kt.im ie _) (calm2 kt.im ie _)
theorem due_drop (kt : t.Ok n) (hn : n ≤ 100) {j : Nat} (hj : j < 3) {s : Str} (ks : Tx s) : φ_law_due [t.tree, edT (.drop j s)] = .ok (if s ∈ nmsOf (t.row j) then (t.setRow j (dropR s (t.row j))).tree else .non) [some t.tree, some (edT (.drop j s))] := by
  have ie := edT_im (e := .drop j s) ⟨hj, ks⟩
  have kr := kt.row j
  have ln := kr.ln
  have hw : ∀ {parts place items name at_ : Option T}, (duW "put").sem (rD t.tree (edT (.drop j s)) parts place items name at_) = .ok false (rD t.tree (edT (.drop j s)) parts place items name at_) false := duW_ok (a := "drop") (b := "put") (us := [.str (kS j), .str s]) (k := false) ie (by kernel_rfl)
  have it2 : ∀ {parts place items name at_ : Option T}, (eIx (eVar 1) (eInt 2)).sem (rD t.tree (edT (.drop j s)) parts place items name at_) = .ok (.v (.str s)) (rD t.tree (edT (.drop j s)) parts place items name at_) false := ix_var (i := 1) (k := 2) (ts := [.str "drop", .str (kS j), .str s]) rfl ie rfl
  have key : ∃ ρ, (blk (duC :: duE)).sem (rD t.tree (edT (.drop j s)) (some (.lst t.ts)) (some (.int (6 + j : Nat))) (some (.lst ((t.row j).map itT))) (some (.str s)) (some (.lst ((atL s (nmsOf (t.row j))).map nI)))) = .ret (if s ∈ nmsOf (t.row j) then (t.setRow j (dropR s (t.row j))).tree else .non) ρ := by
    have c2 := b_cmp (op := .Eq) (b := eInt 0) (o2 := .v (.int 0)) (y := .int 0) (τ2 := false) (len_var (i := 6) (ρ := rD t.tree (edT (.drop j s)) (some (.lst t.ts)) (some (.int (6 + j : Nat))) (some (.lst ((t.row j).map itT))) (some (.str s)) (some (.lst ((atL s (nmsOf (t.row j))).map nI)))) rfl) rfl rfl rfl rfl rfl (eq_ints _ _)
    by_cases h : s ∈ nmsOf (t.row j)
    · rw [if_pos h]
      obtain ⟨r1, q, r2, e, h2, h3, h4⟩ := row_split h kr.nd
      have ea : atL s (nmsOf (t.row j)) = [r1.length] := by rw [e]; exact at_mid h2 h3 h4
      rw [ea] at c2 ⊢
      have hlt : r1.length < (t.row j).length := by rw [e]; simp
      have ed : ((t.row j).map itT).eraseIdx r1.length = (dropR s (t.row j)).map itT := by
        rw [e, drop_mid h2 h3 h4, List.map_append, List.map_cons]
        rw [List.eraseIdx_append_of_length_le (by rw [List.length_map]; omega)]
        simp
      have im : T.imms ((dropR s (t.row j)).map itT) = true := imms_of fun u hu => by
        obtain ⟨z, hz, rfl⟩ := List.mem_map.mp hu
        exact (kr.it z (List.mem_filter.mp hz).1).gd.im
      have pp := e_popAt (i := 4) (us := (t.row j).map itT) (ts := (t.row j).map itT) (a := eIx (eVar 6) (eInt 0)) (ρ := rD t.tree (edT (.drop j s)) (some (.lst t.ts)) (some (.int (6 + j : Nat))) (some (.lst ((t.row j).map itT))) (some (.str s)) (some (.lst [nI r1.length]))) (j := r1.length) (k := r1.length) (t := itT (t.row j)[r1.length]) rfl (ix_li (i := 6) (j := 0) (ts := [nI r1.length]) rfl rfl rfl) rfl (ixN_nat (by rw [List.length_map]; exact hlt)) (by rw [List.getElem?_map, List.getElem?_eq_getElem hlt]; rfl) (by rw [List.length_map, sizeLine_eq]; omega)
      rw [ed] at pp
      obtain ⟨ρ, f1, _⟩ := due_fin kt hj im (edT (.drop j s)) (some (.str s)) (some (.lst [nI r1.length]))
      exact ⟨ρ, (b_nx ((i_f (and_f hw)).trans ((b_nx ((i_f hw).trans ((b_nx ((i_f c2).trans ((b_nx (x_nx pp)).trans b_nil))).trans b_nil))).trans b_nil))).trans f1⟩
    · rw [if_neg h]
      have ea : atL s (nmsOf (t.row j)) = [] := at_none h
      rw [ea] at c2 ⊢
      exact ⟨_, b_ret ((i_f (and_f hw)).trans (b_ret ((i_f hw).trans (b_ret ((i_t c2).trans (b_ret (s_ret (t := .non) (τ := false) rfl)))))))⟩
  obtain ⟨ρ, f⟩ := key
  exact fn_ret (b := b_law_due) rfl (due_pre kt hn hj (a := "drop") (us := [.str s]) ie (by kernel_rfl) ks (fun parts place items => e_if (k := false) (τ := false) (τ2 := false) hw ((if_neg (by decide)).trans it2)) f) (two_back kt.im ie _) (calm2 kt.im ie _)
end
end K81
set_option Elab.async false
set_option linter.all false
set_option maxRecDepth 100000
set_option maxHeartbeats 4000000
/-! k81: the law. -/
namespace Pv
open PySem L2
theorem t_nx {c i : Nat} {cn f dn : Str} {op : CmpOp} {body : Bl} {A : Bx} {b : Ex} {ρ ρ1 : Rho} (h : body.sem ρ = .nx ρ1) : (sTryIf c cn i f op dn body A b).sem ρ = .nx ρ1 := by
  show tryIfS c i op body.sem A.sem b.sem ρ = _
  unfold tryIfS; rw [h]
theorem t_ex {c i : Nat} {cn f dn : Str} {op : CmpOp} {body : Bl} {A : Bx} {b : Ex} {ρ ρ1 ρ2 ρ3 : Rho} {t : T} {o : O} (h : body.sem ρ = .ex c t ρ1) (hi : i < ρ1.length) (hA : A.sem (ρ1.set i none) = .ok false ρ2 false) (hb : b.sem ρ2 = .ok o ρ3 false) (hr : f2 (cmpV op) ρ3 [.v t, o] = some (.bl false)) : (sTryIf c cn i f op dn body A b).sem ρ = .nx ρ3 := by
  show tryIfS c i op body.sem A.sem b.sem ρ = _
  unfold tryIfS; rw [h]; simp only; rw [if_pos ⟨trivial, hi⟩, hA]; simp only; rw [hb]; simp only; rw [hr]
theorem e_repr {a : Ex} {ρ : Rho} {ts : List T} (h : a.sem ρ = .ok (.v (.tup ts)) ρ false) (hs : shows (.tup ts)) : (eRepr a).sem ρ = .ok (.v (.str (T.tup ts).toD.shown)) ρ false := by
  show opSem [a.sem] (f1 reprT) ρ = _
  unfold opSem
  rw [ev1 h rfl]
  simp only [f1, getO, reprT, if_pos hs]
theorem shows_gd {k n : Nat} {t : T} (h : Gd2 k n t) (hk : k ≤ 64) (hn : n ≤ 1000000) : shows t := ⟨h.lay, h.sh, PyData.hasDict_of_canLay _ h.lay, Nat.le_trans h.dp hk, by have := h.ln; rw [sizeLine_eq]; omega⟩
theorem lay_gd {k n : Nat} {t : T} (h : Gd2 k n t) : Lay k t := ⟨h.lay, h.dp⟩
end Pv
namespace K81
open PySem L2 Pv
theorem RowsOk.mono {n m : Nat} {r : List (Str × List T)} (k : RowsOk n r) (h : n ≤ m) : RowsOk m r := ⟨k.it, k.nd, Nat.le_trans k.ln h⟩
theorem Tr.Ok.mono {n m : Nat} {t : Tr} (k : t.Ok n) (h : n ≤ m) : t.Ok m := ⟨k.x0, k.x1, k.x2, k.x3, k.x4, k.x5, k.r6.mono h, k.r7.mono h, k.r8.mono h, k.rule⟩
theorem Tr.Ok.setRow {n : Nat} {t : Tr} (k : t.Ok n) (j : Nat) {r : List (Str × List T)} (h : RowsOk n r) : (t.setRow j r).Ok n := by
  match j with
  | 0 => exact ⟨k.x0, k.x1, k.x2, k.x3, k.x4, k.x5, h, k.r7, k.r8, k.rule⟩
  | 1 => exact ⟨k.x0, k.x1, k.x2, k.x3, k.x4, k.x5, k.r6, h, k.r8, k.rule⟩
  | j + 2 => exact ⟨k.x0, k.x1, k.x2, k.x3, k.x4, k.x5, k.r6, k.r7, h, k.rule⟩
theorem put_ok {n : Nat} {r : List (Str × List T)} (k : RowsOk n r) {p : Str × List T} (kp : ItOk p) : RowsOk (n + 1) (if p.1 ∈ nmsOf r then putR p r else r ++ [p]) := by
  by_cases h : p.1 ∈ nmsOf r
  · rw [if_pos h]
    have en : (putR p r).map (·.1) = nmsOf r := by
      unfold putR nmsOf
      rw [List.map_map]
      apply List.map_congr_left
      intro q _
      simp only [Function.comp_apply]
      split
      · rename_i e; exact (eq_of_beq e).symm
      · rfl
    refine ⟨fun q hq => ?_, by rw [en]; exact k.nd, by unfold putR; rw [List.length_map]; exact Nat.le_succ_of_le k.ln⟩
    obtain ⟨z, hz, rfl⟩ := List.mem_map.mp hq
    split
    · exact kp
    · exact k.it z hz
  · rw [if_neg h]
    refine ⟨fun q hq => ?_, ?_, by have := k.ln; simp only [List.length_append, List.length_cons, List.length_nil]; omega⟩
    · rcases List.mem_append.mp hq with hq | hq
      · exact k.it q hq
      · have : q = p := by simpa using hq
        rw [this]; exact kp
    · rw [List.map_append, List.nodup_append]
      refine ⟨k.nd, by simp, fun a ha b hb => ?_⟩
      have : b = p.1 := by simpa using hb
      subst this
      exact fun z => h (z ▸ ha)
theorem drop_ok {n : Nat} {r : List (Str × List T)} (k : RowsOk n r) (s : Str) : RowsOk n (dropR s r) := by
  refine ⟨fun q hq => k.it q (List.mem_filter.mp hq).1, k.nd.sublist (List.Sublist.map _ List.filter_sublist), Nat.le_trans (List.length_filter_le _ _) k.ln⟩
theorem Tr.Ok.gd {t : Tr} (k : t.Ok 12) : Gd2 4 500000 t.tree := by
  have row : ∀ {r : List (Str × List T)}, RowsOk 12 r → Gd2 3 40000 (rows r) := fun {r} kr => gd_row (fun u hu => by
    obtain ⟨p, hp, rfl⟩ := List.mem_map.mp hu
    exact (kr.it p hp).gd) (by rw [List.length_map]; exact kr.ln)
  refine gd_up (gd_tup (k := 3) (n := 40000) (ts := t.ts) fun u hu => ?_) (by omega) (show 10 * 40002 + 3 ≤ 500000 by omega)
  simp only [List.mem_cons, List.not_mem_nil, or_false] at hu
  rcases hu with rfl | rfl | rfl | rfl | rfl | rfl | rfl | rfl | rfl | rfl
  · exact k.x0
  · exact k.x1
  · exact k.x2
  · exact k.x3
  · exact k.x4
  · exact k.x5
  · exact row k.r6
  · exact row k.r7
  · exact row k.r8
  · exact g3s k.rule
section
variable {w : Wo} {x : Nm}
abbrev rQ (ns : List Int) (d w x t : T) (st ed du be to : Option T) : Rho := [some (.fro ns), some d, some w, some x, some t, st, ed, du, be, to, none]
/-- what an edit does to a tree, told twice alike -/
theorem both {t : Tr} {n : Nat} (kt : t.Ok n) (hn : n ≤ 11) {e : Ed} (ke : e.Ok) :
    (∃ t' : Tr, t'.Ok (n + 1) ∧ φ_law_due [t.tree, edT e] = .ok t'.tree [some t.tree, some (edT e)] ∧ φ_edit_tree [t.tree, edT e] = .ok t'.tree [some t.tree, some (edT e)]) ∨
    (∃ (j : Nat) (s : Str), e = .drop j s ∧ φ_law_due [t.tree, edT e] = .ok .non [some t.tree, some (edT e)] ∧ φ_edit_tree [t.tree, edT e] = .ex 0 (.str s) [some t.tree, some (edT e)]) := by
  cases e with
  | rule s => exact .inl ⟨{ t with rule := s }, ⟨kt.x0, kt.x1, kt.x2, kt.x3, kt.x4, kt.x5, kt.r6.mono (by omega), kt.r7.mono (by omega), kt.r8.mono (by omega), ke⟩, due_rule kt ke, edit_rule kt ke⟩
  | put j p => exact .inl ⟨_, (kt.mono (Nat.le_succ n)).setRow j (put_ok (kt.row j) ke.2), due_put kt (by omega) ke.1 ke.2, edit_put kt (by omega) ke.1 ke.2⟩
  | drop j s =>
    have h1 := due_drop kt (by omega) ke.1 ke.2
    have h2 := edit_drop kt (by omega) ke.1 ke.2
    have hl := drop_len (s := s) (kt.row j).nd
    by_cases h : s ∈ nmsOf (t.row j)
    · rw [if_pos h] at h1
      rw [if_neg fun z => hl.mp z h] at h2
      exact .inl ⟨_, (kt.setRow j (drop_ok (kt.row j) s)).mono (Nat.le_succ n), h1, h2⟩
    · rw [if_neg h] at h1
      rw [if_pos (hl.mpr h)] at h2
      exact .inr ⟨j, s, rfl, h1, h2⟩
def lwT : Sx := sTryIf 0 "Unknown" 10 "name" .NotEq "WishError" (blk [sSet (gN 9) (eCall F_edit_tree (xs [(eVar 4), (eVar 6)]))]) (bCmp .IsNot (eVar 7) eNon) (eIx (eVar 6) (eInt 2))
def lwB : Bl := blk [sSet (gN 6) (eCall F_law_edit (xs [(eVar 1), (eVar 4), (eVar 3)])),
  sSet (gN 7) (eCall F_law_due (xs [(eVar 4), (eVar 6)])),
  sSet (gN 8) (eRepr (eVar 4)),
  sSet (gN 9) eNon,
  lwT,
  sIf (bOr [(bCmp .NotEq (eVar 9) (eVar 7)), (bCmp .NotEq (eRepr (eVar 4)) (eVar 8))]) (blk [sRet (eBl false)]) (blk []),
  sIf (bCmp .IsNot (eVar 7) eNon) (blk [sSet (gN 4) (eVar 7)]) (blk [])]
theorem body_ok (ns : List Int) {d : T} (hd : Dg d) (kw : w.Ok) (ho : x.Ok w) {t : Tr} {n : Nat} (kt : t.Ok n) (hn : n ≤ 11) (st ed du be to : Option T) : ∃ (d' : T) (t' : Tr) (ed' du' be' to' : Option T), lwB.sem (rQ ns d w.tree x.tree t.tree st ed du be to) = .nx (rQ ns d' w.tree x.tree t'.tree st ed' du' be' to') ∧ Dg d' ∧ t'.Ok (n + 1) := by
  obtain ⟨e, d1, q1, g1, ke⟩ := edit_ok hd kw ho kt (by omega)
  have im := kt.im
  have ie := edT_im ke
  have s1 : (sSet (gN 6) (eCall F_law_edit (xs [(eVar 1), (eVar 4), (eVar 3)]))).sem (rQ ns d w.tree x.tree t.tree st ed du be to) = .nx (rQ ns d1 w.tree x.tree t.tree st (some (edT e)) du be to) := by
    obtain ⟨ts, rfl⟩ := dg_shape hd
    exact s_set (e_callF (F := F_law_edit) (φ := φ_law_edit) rfl (ρ1 := rQ ns (.lst ts) w.tree x.tree t.tree st ed du be to) (τ := false) (os := [.p 1 [], .v t.tree, .p 3 []]) (ts := [.lst ts, t.tree, x.tree]) (evp (τ1 := false) (τ2 := false) (v_lst (i := 1) rfl) (evc (τ1 := false) (τ2 := false) (v_imm (i := 4) (t := t.tree) rfl im) (evp (τ1 := false) (τ2 := false) (v_lst (i := 3) rfl) evn rfl)) rfl) rfl rfl rfl q1 rfl) rfl
  have sh : shows t.tree := shows_gd (kt.mono (show n ≤ 12 by omega)).gd (by decide) (by decide)
  have tx : PyData.strOk t.tree.toD.shown = true := (kt.mono (show n ≤ 12 by omega)).gd.tx
  let S : T := .str t.tree.toD.shown
  have pre : ∀ {D : T} {r : RS}, φ_law_due [t.tree, edT e] = .ok D [some t.tree, some (edT e)] → (blk [lwT, sIf (bOr [(bCmp .NotEq (eVar 9) (eVar 7)), (bCmp .NotEq (eRepr (eVar 4)) (eVar 8))]) (blk [sRet (eBl false)]) (blk []),
      sIf (bCmp .IsNot (eVar 7) eNon) (blk [sSet (gN 4) (eVar 7)]) (blk [])]).sem (rQ ns d1 w.tree x.tree t.tree st (some (edT e)) (some D) (some S) (some .non)) = r → lwB.sem (rQ ns d w.tree x.tree t.tree st ed du be to) = r := fun {D r} hD h => by
    have s2 : (sSet (gN 7) (eCall F_law_due (xs [(eVar 4), (eVar 6)]))).sem (rQ ns d1 w.tree x.tree t.tree st (some (edT e)) du be to) = .nx (rQ ns d1 w.tree x.tree t.tree st (some (edT e)) (some D) be to) :=
      s_set (e_callF (F := F_law_due) (φ := φ_law_due) rfl (ρ1 := rQ ns d1 w.tree x.tree t.tree st (some (edT e)) du be to) (τ := false) (os := [.v t.tree, .v (edT e)]) (ts := [t.tree, edT e]) (evc (τ1 := false) (τ2 := false) (v_imm (i := 4) (t := t.tree) rfl im) (evc (τ1 := false) (τ2 := false) (v_imm (i := 6) rfl ie) evn)) rfl rfl rfl hD rfl) rfl
    have s3 : (sSet (gN 8) (eRepr (eVar 4))).sem (rQ ns d1 w.tree x.tree t.tree st (some (edT e)) (some D) be to) = .nx (rQ ns d1 w.tree x.tree t.tree st (some (edT e)) (some D) (some S) to) := s_set (e_repr (v_imm (i := 4) (t := t.tree) rfl im) sh) rfl
    have s4 : (sSet (gN 9) eNon).sem (rQ ns d1 w.tree x.tree t.tree st (some (edT e)) (some D) (some S) to) = .nx (rQ ns d1 w.tree x.tree t.tree st (some (edT e)) (some D) (some S) (some .non)) := s_set (ρ1 := rQ ns d1 w.tree x.tree t.tree st (some (edT e)) (some D) (some S) to) (t := .non) (τ := false) rfl rfl
    exact (b_nx s1).trans ((b_nx s2).trans ((b_nx s3).trans ((b_nx s4).trans h)))
  have post : ∀ {D : T} {ρ' : Rho} {r : RS}, D.imm = true → eqT D D = some true → (sIf (bCmp .IsNot (eVar 7) eNon) (blk [sSet (gN 4) (eVar 7)]) (blk [])).sem (rQ ns d1 w.tree x.tree t.tree st (some (edT e)) (some D) (some S) (some D)) = .nx ρ' → (blk [sIf (bOr [(bCmp .NotEq (eVar 9) (eVar 7)), (bCmp .NotEq (eRepr (eVar 4)) (eVar 8))]) (blk [sRet (eBl false)]) (blk []),
      sIf (bCmp .IsNot (eVar 7) eNon) (blk [sSet (gN 4) (eVar 7)]) (blk [])]).sem (rQ ns d1 w.tree x.tree t.tree st (some (edT e)) (some D) (some S) (some D)) = .nx ρ' := fun {D ρ' r} iD eD h => by
    let ρ : Rho := rQ ns d1 w.tree x.tree t.tree st (some (edT e)) (some D) (some S) (some D)
    have c1 := ne_same (a := eVar 9) (b := eVar 7) (ρ := ρ) (τ1 := false) (τ2 := false) (v_imm (i := 9) rfl iD) (v_imm (i := 7) rfl iD) eD
    have eS : eqT S S = some true := by rw [eq_str (strOk_mem tx) (strOk_mem tx), beq_self_eq_true]
    have c2 := ne_same (a := eRepr (eVar 4)) (b := eVar 8) (ρ := ρ) (τ1 := false) (τ2 := false) (e_repr (v_imm (i := 4) (t := t.tree) rfl im) sh) (v_imm (i := 8) (t := S) rfl rfl) eS
    exact (b_nx ((i_f (or_f c1 (or_1.trans c2))).trans rfl)).trans ((b_nx h).trans b_nil)
  have ev : ∀ {D : T}, evL (xs [(eVar 4), (eVar 6)]).sems (rQ ns d1 w.tree x.tree t.tree st (some (edT e)) (some D) (some S) (some .non)) = .ok [.v t.tree, .v (edT e)] (rQ ns d1 w.tree x.tree t.tree st (some (edT e)) (some D) (some S) (some .non)) false := evc (τ1 := false) (τ2 := false) (v_imm (i := 4) (t := t.tree) rfl im) (evc (τ1 := false) (τ2 := false) (v_imm (i := 6) rfl ie) evn)
  rcases both kt hn ke with ⟨t', k', h1, h2⟩ | ⟨j, s, rfl, h1, h2⟩
  · have i' := k'.im
    have cl : (sSet (gN 9) (eCall F_edit_tree (xs [(eVar 4), (eVar 6)]))).sem (rQ ns d1 w.tree x.tree t.tree st (some (edT e)) (some t'.tree) (some S) (some .non)) = .nx (rQ ns d1 w.tree x.tree t.tree st (some (edT e)) (some t'.tree) (some S) (some t'.tree)) :=
      s_set (e_callF (F := F_edit_tree) (φ := φ_edit_tree) rfl (τ := false) ev rfl rfl rfl h2 rfl) rfl
    have s5 : lwT.sem _ = .nx _ := t_nx ((b_nx cl).trans b_nil)
    have c : (bCmp .IsNot (eVar 7) eNon).sem (rQ ns d1 w.tree x.tree t.tree st (some (edT e)) (some t'.tree) (some S) (some t'.tree)) = .ok true (rQ ns d1 w.tree x.tree t.tree st (some (edT e)) (some t'.tree) (some S) (some t'.tree)) false :=
      b_cmp (τ1 := false) (τ2 := false) (o1 := .v t'.tree) (o2 := .v .non) (x := t'.tree) (y := .non) (v_imm (i := 7) (t := t'.tree) rfl i') rfl rfl rfl rfl rfl rfl
    have s7 := (i_t (y := blk []) c).trans ((b_nx (s_set (tg := gN 4) (ρ2 := rQ ns d1 w.tree x.tree t'.tree st (some (edT e)) (some t'.tree) (some S) (some t'.tree)) (v_imm (i := 7) (t := t'.tree) rfl i') rfl)).trans b_nil)
    exact ⟨d1, t', _, _, _, _, pre h1 ((b_nx s5).trans (post (r := .stuck) i' (eq_lay (lay_gd (k'.mono (show n + 1 ≤ 12 by omega)).gd) (by decide)) s7)), g1, k'⟩
  · have cl : (sSet (gN 9) (eCall F_edit_tree (xs [(eVar 4), (eVar 6)]))).sem (rQ ns d1 w.tree x.tree t.tree st (some (edT (.drop j s))) (some .non) (some S) (some .non)) = .ex 0 (.str s) (rQ ns d1 w.tree x.tree t.tree st (some (edT (.drop j s))) (some .non) (some S) (some .non)) :=
      s_set_ex (e_call_ex (F := F_edit_tree) (τ := false) ev rfl rfl rfl h2 rfl)
    have hs : eqT (.str s) (.str s) = some true := by rw [eq_tx ke.2 ke.2, beq_self_eq_true]
    have s5 : lwT.sem _ = .nx (rQ ns d1 w.tree x.tree t.tree st (some (edT (.drop j s))) (some .non) (some S) (some .non)) := t_ex (b_ex cl) (show 10 < 11 by decide) (o := .v (.str s)) (ρ2 := rQ ns d1 w.tree x.tree t.tree st (some (edT (.drop j s))) (some .non) (some S) (some .non))
      (b_cmp (τ1 := false) (τ2 := false) (o1 := .v .non) (o2 := .v .non) (x := .non) (y := .non) (v_imm (i := 7) rfl rfl) rfl rfl rfl rfl rfl rfl) (ix_var (i := 6) (k := 2) (ts := [.str "drop", .str (kS j), .str s]) rfl rfl rfl) (by
        show ((eqT (.str s) (.str s)).map (!·)).map T.bl = _
        rw [hs]; rfl)
    have c : (bCmp .IsNot (eVar 7) eNon).sem (rQ ns d1 w.tree x.tree t.tree st (some (edT (.drop j s))) (some .non) (some S) (some .non)) = .ok false (rQ ns d1 w.tree x.tree t.tree st (some (edT (.drop j s))) (some .non) (some S) (some .non)) false :=
      b_cmp (τ1 := false) (τ2 := false) (o1 := .v .non) (o2 := .v .non) (x := .non) (y := .non) (v_imm (i := 7) rfl rfl) rfl rfl rfl rfl rfl rfl
    exact ⟨d1, t, _, _, _, _, pre h1 ((b_nx s5).trans (post (r := .stuck) rfl (by rfl) ((i_f c).trans rfl))), g1, kt.mono (Nat.le_succ n)⟩
end
theorem law_true (ns : List Int) (hl : ns.length ≤ 63) : ∃ ρ, φ_law [.fro ns] = .ok (.bl true) ρ := by
  have b0 := begin_ok ns hl
  have hd0 : Dg (ds 0 0 0 0 ns) := ⟨0, 0, 0, 0, ns, rfl, by omega, by omega, by omega, by omega, by omega⟩
  obtain ⟨w, d1, p1, g1, kw⟩ := small_ok hd0
  obtain ⟨x, d2, p2, g2, ho⟩ := names_ok g1 kw
  obtain ⟨t, p3, kt⟩ := tree_ok kw ho
  have s1 : (sSet (gN 1) (eCall F_law_begin (xs [(eVar 0)]))).sem [some (.fro ns), none, none, none, none, none, none, none, none, none, none] = .nx [some (.fro ns), some (ds 0 0 0 0 ns), none, none, none, none, none, none, none, none, none] :=
    s_set (e_callF (F := F_law_begin) (φ := φ_law_begin) rfl (ρ1 := [some (.fro ns), none, none, none, none, none, none, none, none, none, none]) (τ := false) (os := [.v (.fro ns)]) (ts := [.fro ns]) (evc (τ1 := false) (τ2 := false) (v_imm rfl rfl) evn) rfl rfl rfl b0 rfl) rfl
  have s2 : (sSet (gN 2) (eCall F_law_small (xs [(eVar 1)]))).sem [some (.fro ns), some (ds 0 0 0 0 ns), none, none, none, none, none, none, none, none, none] = .nx [some (.fro ns), some d1, some w.tree, none, none, none, none, none, none, none, none] :=
    s_set (e_callF (F := F_law_small) (φ := φ_law_small) rfl (ρ1 := [some (.fro ns), some (ds 0 0 0 0 ns), none, none, none, none, none, none, none, none, none]) (τ := false) (os := [.p 1 []]) (ts := [ds 0 0 0 0 ns]) (evp (τ1 := false) (τ2 := false) (v_lst (i := 1) rfl) evn rfl) rfl rfl rfl p1 rfl) rfl
  have s3 : (sSet (gN 3) (eCall F_law_names (xs [(eVar 1), (eVar 2)]))).sem [some (.fro ns), some d1, some w.tree, none, none, none, none, none, none, none, none] = .nx [some (.fro ns), some d2, some w.tree, some x.tree, none, none, none, none, none, none, none] := by
    obtain ⟨ts, rfl⟩ := dg_shape g1
    exact s_set (e_callF (F := F_law_names) (φ := φ_law_names) rfl (ρ1 := [some (.fro ns), some (.lst ts), some w.tree, none, none, none, none, none, none, none, none]) (τ := false) (os := [.p 1 [], .p 2 []]) (ts := [.lst ts, w.tree]) (evp (τ1 := false) (τ2 := false) (v_lst (i := 1) rfl) (evp (τ1 := false) (τ2 := false) (v_lst (i := 2) rfl) evn rfl) rfl) rfl rfl rfl p2 rfl) rfl
  have s4 : (sSet (gN 4) (eCall F_law_tree (xs [(eVar 2), (eVar 3)]))).sem [some (.fro ns), some d2, some w.tree, some x.tree, none, none, none, none, none, none, none] = .nx (rQ ns d2 w.tree x.tree t.tree none none none none none) :=
    s_set (e_callF (F := F_law_tree) (φ := φ_law_tree) rfl (ρ1 := [some (.fro ns), some d2, some w.tree, some x.tree, none, none, none, none, none, none, none]) (τ := false) (os := [.p 2 [], .p 3 []]) (ts := [w.tree, x.tree]) (evp (τ1 := false) (τ2 := false) (v_lst (i := 2) rfl) (evp (τ1 := false) (τ2 := false) (v_lst (i := 3) rfl) evn rfl) rfl) rfl rfl rfl p3 rfl) rfl
  obtain ⟨k, d3, q5, g3, b5⟩ : ∃ (k : Nat) (d3 : T), (iRange1 (eBin .Add (eInt 1) (eCall F_law_draw (xs [(eVar 1), (eInt 8)])))).sem (rQ ns d2 w.tree x.tree t.tree none none none none none) = .ok (rangeL 0 (1 + k : Nat)) (rQ ns d3 w.tree x.tree t.tree none none none none none) true false ∧ Dg d3 ∧ k < 8 := by
    obtain ⟨k, d3, q1, q2, q3, _, q5⟩ := draw_ok g2 (m := 8) (by decide)
    obtain ⟨j, rfl⟩ := nat_of q3
    obtain ⟨ts, rfl⟩ := dg_shape g2
    have cl : (eCall F_law_draw (xs [(eVar 1), (eInt 8)])).sem (rQ ns (.lst ts) w.tree x.tree t.tree none none none none none) = .ok (.v (.int j)) (rQ ns d3 w.tree x.tree t.tree none none none none none) true :=
      e_callF (F := F_law_draw) (φ := φ_law_draw) rfl (ρ1 := rQ ns (.lst ts) w.tree x.tree t.tree none none none none none) (τ := false) (os := [.p 1 [], .v (.int 8)]) (ts := [.lst ts, .int 8]) (evp (τ1 := false) (τ2 := false) (v_lst (i := 1) rfl) (evc (ρ1 := rQ ns (.lst ts) w.tree x.tree t.tree none none none none none) (t := .int 8) (τ1 := false) (τ2 := false) rfl evn) rfl) rfl rfl rfl q1 rfl
    have hj : j < 8 := by have := q5 (by decide); omega
    exact ⟨j, d3, rg1 (e_addN (a := eInt 1) (x := 1) (τ1 := false) (ρ1 := rQ ns (.lst ts) w.tree x.tree t.tree none none none none none) rfl cl) (small62_of ⟨by omega, by omega⟩), q2, hj⟩
  obtain ⟨ρ', e, d4, t4, st, ed, du, be, to, rfl, h1, h2⟩ := for_inv (set := (gN 5).sem) (b := lwB.sem)
    (fun items ρ => ∃ (d : T) (t : Tr) (st ed du be to : Option T), ρ = rQ ns d w.tree x.tree t.tree st ed du be to ∧ Dg d ∧ t.Ok (12 - items.length) ∧ items.length ≤ 8)
    (fun y ys ρ ⟨d, t, st, ed, du, be, to, e, h1, h2, h3⟩ => by
      subst e
      simp only [List.length_cons] at h2 h3
      obtain ⟨d', t', ed', du', be', to', f1, f2, f3⟩ := body_ok ns h1 kw ho h2 (by omega) (some y) ed du be to
      exact ⟨rQ ns d w.tree x.tree t.tree (some y) ed du be to, _, rfl, f1, d', t', some y, ed', du', be', to', rfl, f2, f3.mono (by omega), by omega⟩)
    (rangeL 0 (1 + k : Nat)) (rQ ns d3 w.tree x.tree t.tree none none none none none) ⟨d3, t, none, none, none, none, none, rfl, g3, kt.mono (by rw [rangeL_len]; omega), by rw [rangeL_len]; omega⟩
  exact ⟨_, fn_ret (b := b_law) rfl ((b_nx s1).trans ((b_nx s2).trans ((b_nx s3).trans ((b_nx s4).trans ((b_nx ((s_for q5).trans e)).trans (b_ret (s_ret (t := .bl true) (τ := false) rfl))))))) rfl rfl⟩
end K81
set_option Elab.async false
set_option linter.all false
set_option maxRecDepth 100000
set_option maxHeartbeats 2000000
/-! Pv part Rk: the law's def is entered from the caller alone, under which no repr runs; so its body may have repr. -/
namespace Pv
open PySem L2 PySem.Spec PyProof.Rows
/-- the script's place in the abstract heap -/
def scr (K : PySem.W.Frag) (a : Addr) (o : Obj) (ns : List Int) : Hp := fun b => if b = a ∧ K.lookup a = none then some (.frz o (.lst (ns.map V.int))) else none
section
variable {P : Program} {w : World} {K : PySem.W.Frag} {mg mb : Str → Option Value} {s : Shared} {a f : Addr} {vs : List Value} {ns : List Int} {fd : FuncData} {qual : Str} {st : Stmt} {N : List Str} {b : Bl} {xi : XI} {k : Nat}
theorem scr_none {o : Obj} {c : Addr} (h : ¬ (c = a ∧ K.lookup a = none)) : scr K a o ns c = none := if_neg h
theorem scr_some {o : Obj} {c : Addr} {u : HO} (h : scr K a o ns c = some u) : (c = a ∧ K.lookup a = none) ∧ u = .frz o (.lst (ns.map V.int)) := by
  unfold scr at h
  split at h
  · rename_i z; exact ⟨z, by cases h; rfl⟩
  · cases h
/-- what the caller's heap is to the law's def -/
theorem home (KX : K.In s.heap) (hns : s.heap.Ns mainGlobals mg) (hb : s.heap.Ns builtinsNs mb) (hbb : ∀ x : Str, x ≠ "__name__" → mb x = bootBuiltins x) (hlim : s.heap.NoLimit) (hg : s.gens = #[])
    (ha : s.heap.get? a = some { cls := .type "list", data := .seq vs.toArray }) (hi : IntsAre vs ns) (hl : ns.length ≤ sizeLine) :
    ∃ (base : Heap) (H : Hp), K.In base ∧ base.Ns mainGlobals mg ∧ Env0 P w K mg base callerA [] s H ∧ Only H ∧ SqL K H a (ns.map V.int) ∧ ∀ c o, H c = some o → ∃ o' u, o = .frz o' u := by
  let o0 : Obj := { cls := .type "list", data := .seq vs.toArray }
  let H : Hp := scr K a o0 ns
  have far : ∀ {c : Addr} {o : Obj}, s.heap.get? c = some o → (∀ z : c = a, K.lookup a = none → False) → (hidT s.heap H).get? c = some o := fun e h => hidT_get e (scr_none fun z => h z.1 z.2)
  have names : ∀ {c : Addr} {m : Str → Option Value}, s.heap.Ns c m → (hidT s.heap H).Ns c m := by
    rintro c m ⟨o, es, ep, e, d, r⟩
    refine ⟨o, es, ep, far e fun z _ => ?_, d, r⟩
    subst z
    rw [ha] at e
    cases e
    exact absurd d (fun z => by cases z)
  have kb : K.In (hidT s.heap H) := fun c o e => far (KX c o e) fun z n => by rw [z, n] at e; cases e
  obtain ⟨mc, l1, l2⟩ := hlim
  have md : Mod K mg (hidT s.heap H) := ⟨kb, names hns, ⟨mb, names hb, hbb⟩, ⟨mc, names l1, l2⟩⟩
  have sq : SqL K H a (ns.map V.int) := by
    cases hk : K.lookup a with
    | some o =>
      have e := KX a o hk
      rw [ha] at e
      cases e
      exact .inr ⟨_, vs.toArray, _, hk, rfl, rfl, rfl, by rw [List.size_toArray, hi.length]; exact hl, by simpa using vals_ints hi⟩
    | none => exact .inl (.inr ⟨o0, if_pos ⟨rfl, hk⟩⟩)
  have hok : HOk P w H s.heap := fun c u e => by
    obtain ⟨⟨rfl, _⟩, rfl⟩ := scr_some e
    exact ⟨ha, by rw [List.length_map]; exact hl, vs, _, vals_ints hi, ha⟩
  refine ⟨hidT s.heap H, H, kb, names hns, ⟨rfl, md, fun c o e => of_hidT e, Nat.le_of_eq (hidT_size _ _), trivial, fun c z => (by cases z), hok, .of_eq hg⟩, fun c => ?_, sq, fun c o e => ?_⟩
  · by_cases z : c = a ∧ K.lookup a = none
    · exact .inr ⟨o0, _, if_pos z⟩
    · exact .inl (scr_none z)
  · obtain ⟨_, rfl⟩ := scr_some e
    exact ⟨_, _, rfl⟩
/-- the def at work, called by the caller -/
theorem home_call (F : L2.Fun K qual qual st f fd) (D : DefOk st N ["script"] b) (hb : ∀ (s : Shared) (u : Value), BindsTo s fd ⟨[u], []⟩ [("script", u)]) {base : Heap} (p : b.pre ⟨P, w, K, mg, base, xi⟩ k) (hr : Room (k + 1) callerA) {H : Hp} (e0 : Env0 P w K mg base callerA [] s H)
    {Q : VK} (h : spF K xi 1 (fnSem N.length b) [.ref a] H Q fun _ _ _ => False) :
    codeAny (model P w) callerA (.call (.ref f) ⟨[.ref a], []⟩) (CR (L2.CX P w) [] P w H s Q fun _ _ _ => False) s := by
  obtain ⟨oc, od, kV, doc, pm, an, cdv, ct, osl, rfl, lk, hcd⟩ := F.ex
  have S := D.sc
  have kp : ∀ c o, base.get? c = some o → s.heap.get? c = some o := fun c o e => (e0.bs c o e).1
  have KX : K.In s.heap := e0.mod.kin.keeps kp
  have par : ∀ y ∈ [(("script" : Str), Value.ref a)], (defScope st).names.lookup y.1 = some .local ∨ ((defScope st).names.lookup y.1 = some .cell ∧ ((cellsFrom (s.heap.objs.size + 1) (defScope st).names []).lookup y.1).isSome = true) := fun y hy => by
    have hy' : y = (("script" : Str), Value.ref a) := by simpa using hy
    rw [hy']
    exact (S.par "script" (by simp)).imp id fun z => ⟨z, PySem.W.cellsFrom_some _ _ _ (.inl z)⟩
  refine codeAny_call_function hr.depth (KX _ _ lk) rfl S.co S.gen rfl (PySem.W.codeRec_of KX hcd) (hb s (.ref a) _ _ _ _ ?_)
  refine wpAny_newFunctionEnv_cells S.kind par fun env he s1 x => ?_
  subst he
  refine ⟨(e0.mod.nolimit.keeps kp).keeps x.toInCall.keep, codeAny_func ?_⟩
  let X : Cx := cxOf (L2.CX P w) P w K mg base N qual (defScope st) f cdv callerA [] s H fun _ _ _ => False
  have room := hr.deeper (envOfC qual (defScope st) s.heap.objs.size f cdv)
  have body : PSs X (defBody st) (tS K xi (fun cls d _ H => False) b.asg b.sem) :=
    b.snd (X := X) (lvl := k) (cm := true) ⟨⟨rfl, S.nd, rfl, fun _ => rfl, fun _ => room, by have := room.un; show (callerA.deeper _).units + 100 < cLine; omega, takes_of rfl rfl rfl rfl, fun _ => rfl⟩, fun y _ => .inl rfl, passes_of rfl, rfl, rfl⟩ p D.m
  have I : Inv X [] (L2.start N [.ref a]) H s1 := inv_start S hr.hd e0 (vs := [.ref a]) rfl (.cons rfl .nil) x
  have run : tS K xi (fun cls d _ H => False) b.asg b.sem { nx := fun _ H' => Q .non H', rt := Q } (L2.start N [.ref a]) H := by
    obtain ⟨ts, fp, hl, e, hq⟩ := h
    refine ⟨_, fp, start_env e, ?_⟩
    unfold fnSem at hq
    by_cases c : calmArgs b.asg 0 ts = true
    case neg => rw [if_neg c] at hq; exact hq.elim
    rw [if_pos c] at hq
    cases hs : b.sem (ts.map some ++ List.replicate (N.length - ts.length) none) with
    | nx ρ' => rw [hs] at hq; exact fun σ' H' fp' e' s' ag => hq .non H' _ [] (back_env e e' s' ag c) (step_fpB s') ⟨rfl, rfl⟩
    | ret t ρ' => rw [hs] at hq; exact fun v σ' H' fp' fo e' s' ag r => hq v H' _ fo (back_env e e' s' ag c) (step_fpB s') r
    | ex cc t ρ' => rw [hs] at hq; exact fun d σ' H' fp' e' s' ag x => hq d H' _ (back_env e e' s' ag c) (step_fpB s') x
    | stuck => rw [hs] at hq; exact hq.elim
    | bk ρ' => rw [hs] at hq; exact hq.elim
    | ct ρ' => rw [hs] at hq; exact hq.elim
  have over : ∀ {σ' : L2.St} {H' : Hp} {v : V} {u : Value} {s' : Shared}, Inv X [] σ' H' s' → RelV v u → Q v H' → CE [] P w H s Q u s' := fun J rv q => ⟨_, _, J.os, J.bare, J.base, J.hok, rv, q⟩
  refine wpAny_mono (body.run [] s1 (L2.start N [.ref a]) H _ I run) (fun fl s' hs => ?_) fun e s' hs => hs
  cases fl with
  | next => obtain ⟨σ', H', J, q⟩ := hs; exact over (v := V.non) (u := Value.none) J rfl q
  | ret u => obtain ⟨v, σ', H', J, rv, q⟩ := hs; exact over J rv q
  | brk => obtain ⟨_, _, _, q⟩ := hs; exact q.elim
  | cont => obtain ⟨_, _, _, q⟩ := hs; exact q.elim
/-- the law's own promise: it gives True at every script -/
def spL (K : PySem.W.Frag) : Sp := fun vs H Q _ => ∃ (a : Addr) (ns : List Int), vs = [.ref a] ∧ ns.length ≤ 63 ∧ Only H ∧ SqL K H a (ns.map .int) ∧ ∀ H', Q (.bl true) H'
theorem spL_end {K : PySem.W.Frag} {xi : XI} {φ : List T → FR} (hφ : ∀ ns : List Int, ns.length ≤ 63 → ∃ ρ, φ [.fro ns] = .ok (.bl true) ρ) {vs : List V} {H : Hp} {Q : VK} {E : XK} (h : spL K vs H Q E) : spF K xi 1 φ vs H Q E := by
  obtain ⟨a, ns, rfl, hl, ho, hs, q⟩ := h
  obtain ⟨ρ, e⟩ := hφ ns hl
  refine ⟨[.fro ns], fun _ => [], rfl, ⟨rfl, fun i t h => ?_, fun _ _ => rfl, fun _ => .nil, fun _ _ _ h => by cases h⟩, ?_⟩
  · cases i with
    | zero =>
      cases h
      refine ⟨.ref a, rfl, rfl, a, rfl, ?_⟩
      rcases hs with (hs | ⟨o, hs⟩) | hs
      · rcases ho a with z | ⟨o, xs, z⟩
        · rw [z] at hs; cases hs
        · rw [z] at hs; cases hs
      · exact .inl ⟨o, hs⟩
      · exact .inr fun _ => .inr hs
    | succ i => simp at h
  · rw [e]
    intro v H' fp' fo _ _ r
    rw [r.1]
    exact q H'
/-- what is wanted of the law's def at a base: called by the caller it keeps the promise -/
def HomeOk (P : Program) (w : World) (K : PySem.W.Frag) (mg : Str → Option Value) (base : Heap) (f : Addr) : Prop :=
  ∀ (s : Shared) (H : Hp) (a : Addr) (Q : VK), Env0 P w K mg base callerA [] s H → spL K [.ref a] H Q (fun _ _ _ => False) → codeAny (model P w) callerA (.call (.ref f) ⟨[.ref a], []⟩) (CR (L2.CX P w) [] P w H s Q fun _ _ _ => False) s
theorem home_ok (F : L2.Fun K qual qual st f fd) (D : DefOk st N ["script"] b) (hb : ∀ (s : Shared) (u : Value), BindsTo s fd ⟨[u], []⟩ [("script", u)]) {base : Heap} (p : b.pre ⟨P, w, K, mg, base, xi⟩ k) (hr : Room (k + 1) callerA)
    (ht : ∀ ns : List Int, ns.length ≤ 63 → ∃ ρ, fnSem N.length b [.fro ns] = .ok (.bl true) ρ) : HomeOk P w K mg base f := fun s H a Q e0 h => home_call F D hb p hr e0 (spL_end ht h)
/-- the row's walk, from the promise at the caller -/
theorem home_walk {l : PySem.W.OpenLaw} {q : Program} {loose : List Str} {XP : (Str → Option Value) → Heap → Prop} {YP : World → Heap → Prop} {d : DefRec} {K : Params → PySem.W.Frag} (hn : l.most = some 63) (hdf : d.params.defaults = []) (hY : ∀ (w : World) (h : Heap), YP w h → (K w.params).In h)
    (F : ∀ (w : World) (mg : Str → Option Value) (fa : Addr) (h : Heap), (K w.params).In h → h.Ns mainGlobals mg → mg d.name = some (.ref fa) → ∀ base : Heap, (K w.params).In base → base.Ns mainGlobals mg → HomeOk l.prog w (K w.params) mg base fa) :
    PySem.W.WalkO q loose XP YP l.row.toRowW d [] (fun f vs => PySem.call f vs) := by
  refine Att.attach_call hn hdf fun w s₀ s mg mb fa o pm cd doc a vs ns G Y ho hd hcd hmg hobj hints hlen hg => ?_
  have KX := hY w _ Y
  obtain ⟨base, H, k1, k2, e0, on, sq, fz⟩ := home (P := l.prog) (w := w) KX G.T.g G.T.b G.T.builtins G.T.nolimit hg hobj hints (Nat.le_trans hlen (by decide))
  refine codeAny_mono (F w mg fa _ KX G.T.g hmg base k1 k2 s H a (fun v _ => v = .bl true) e0 ⟨a, ns, rfl, hlen, on, sq, fun _ => rfl⟩) fun r s' h => ?_
  match r, h with
  | .error e, h =>
    obtain ⟨_, _, _, _, _, _, _, _, _, _, _, _, z⟩ := h
    exact z.elim
  | .ok (.ret u), h =>
    obtain ⟨v, H', os, bare, un, hok', rv, hv⟩ := h
    have hv' : v = .bl true := hv
    subst hv'
    have hu : u = Value.bool true := rv
    subst hu
    refine ⟨rfl, OldK.of_keep fun c o e => ?_, os, bare⟩
    cases hc : H c with
    | none => exact un.keep c o e hc (fun z => by cases z) (fun z => by cases z)
    | some u =>
      obtain ⟨o', u', rfl⟩ := fz c u hc
      have e1 := (e0.hok c _ hc).1
      have e2 := (hok' c _ (un.frzs c o' u' hc)).1
      rw [e1] at e
      cases e
      exact e2
  | .ok .next, h => exact False.elim h
  | .ok .brk, h => exact False.elim h
  | .ok .cont, h => exact False.elim h
end
end Pv
set_option Elab.async false
set_option linter.all false
set_option maxRecDepth 100000
set_option maxHeartbeats 2000000
/-! Pv part Rl: promises of defs, tables and classes, for the printed end. -/
namespace Pv
open PySem L2
theorem has_of {P : Program} {w : World} {K : PySem.W.Frag} {mg : Str → Option Value} {base : Heap} {xi : XI} {x : Str} {st : Stmt} {f : Addr} {fd : FuncData} {N ps : List Str} {k n np : Nat} {b : Bl} {F0 : Fn} (hx : xi.gd = false) (e : F0 = ⟨x, np, fnSem n b⟩) (D : DefOk st N ps b) (hn : n = N.length) (hp : np = ps.length) (F : L2.Fun K x x st f fd) (B : Binds K fd ps []) (g : mg x = some (.ref f)) (p : b.pre ⟨P, w, K, mg, base, xi⟩ k) :
    Has ⟨P, w, K, mg, base, xi⟩ (k + 1) F0 := by
  subst e hn hp
  exact has_def hx F B g D p
/-- a promise says nothing of reprs -/
theorem has_gd {P : Program} {w : World} {K : PySem.W.Frag} {mg : Str → Option Value} {base : Heap} {xc : Nat → Addr} {xf : Nat → Str} {F : Fn} {k : Nat} {a c : Bool} (h : Has ⟨P, w, K, mg, base, ⟨xc, xf, a⟩⟩ k F) : Has ⟨P, w, K, mg, base, ⟨xc, xf, c⟩⟩ k F := by
  obtain ⟨f, fd, ps, h1, h2, h3, h4⟩ := h
  refine ⟨f, fd, ps, h1, h2, h3, h4.imp fun vs H Q E q => ?_⟩
  obtain ⟨ts, fp, q1, q2, q3⟩ := q
  refine ⟨ts, fp, q1, q2, ?_⟩
  cases e : F.φ ts with
  | stuck => rw [e] at q3; exact q3
  | ok r ρ => rw [e] at q3; exact q3
  | ex c t ρ => rw [e] at q3; exact q3
/-- all keys of a table -/
theorem tab_all {p : Str → Int → Prop} : ∀ {tb : List (Str × Int)}, (∀ e ∈ tb, p e.1 e.2) → ∀ z v, tb.lookup z = some v → p z v
  | [], _, z, v, e => by cases e
  | (a, b) :: tb, h, z, v, e => by
    rw [List.lookup_cons] at e
    split at e
    · rename_i c
      cases e
      have := h _ List.mem_cons_self
      rw [show z = a from eq_of_beq c]
      exact this
    · exact tab_all (fun x hx => h x (List.mem_cons_of_mem _ hx)) z v e
theorem tab_cons {p : Str → Int → Prop} {a : Str} {b : Int} {tb : List (Str × Int)} (h : p a b) (t : ∀ e ∈ tb, p e.1 e.2) : ∀ e ∈ (a, b) :: tb, p e.1 e.2 := fun e he => by
  rcases List.mem_cons.mp he with rfl | he
  · exact h
  · exact t e he
theorem tab_nil {p : Str → Int → Prop} : ∀ e ∈ ([] : List (Str × Int)), p e.1 e.2 := fun e he => by cases he
/-- an error of the class at C is one of the class at D -/
theorem kit_of {K : PySem.W.Frag} {C D : Addr} (h1 : PySem.W.isClsIn K D = true) (h2 : PySem.W.typeIn K (.ref D) = some (.type "type")) (h3 : PySem.W.subIn K (.ref C) (.ref D) = some true) : PySem.W.kitOne K (.ref C) (.ref D) = some true := by
  have h1' : (PySem.W.clsIn K D).isSome = true := h1
  unfold PySem.W.kitOne
  split
  · rfl
  · show (if ((PySem.W.clsIn K D).isSome && PySem.W.typeIn K (.ref D) == some (.type "type")) = true then PySem.W.subIn K (.ref C) (.ref D) else none) = some true
    rw [h1', h2, h3]
    rfl
/-- an error of the class at S is what «except S» names -/
theorem exm_self {K : PySem.W.Frag} {S : Addr} (h1 : PySem.W.subIn K (.ref S) (.type "BaseException") = some true) (h2 : PySem.W.isClsIn K S = true) (h3 : PySem.W.typeIn K (.ref S) = some (.type "type")) (h4 : PySem.W.subIn K (.ref S) (.ref S) = some true) :
    PySem.W.exmOne K (.ref S) (.ref S) = some true := by
  have e1 : (PySem.W.subIn K (.ref S) (.type "BaseException") == some true) = true := by rw [h1] <;> rfl
  have e2 : ((PySem.W.clsIn K S).isSome && PySem.W.typeIn K (.ref S) == some (.type "type")) = true := by
    have h2' : (PySem.W.clsIn K S).isSome = true := h2
    rw [h2', h3] <;> rfl
  show (if (PySem.W.subIn K (.ref S) (.type "BaseException") == some true) = true then (if ((PySem.W.clsIn K S).isSome && PySem.W.typeIn K (.ref S) == some (.type "type")) = true then PySem.W.subIn K (.ref S) (.ref S) else none) else none) = some true
  rw [if_pos e1, if_pos e2]
  exact h4
end Pv
set_option Elab.async false
set_option linter.all false
set_option maxRecDepth 100000
set_option maxHeartbeats 2000000
/-! k81: the end. Printed by genz3.py. -/
namespace K81
open PySem L2 Pv
theorem P_law_begin {Γ : Gm} {k : Nat} (z_list : Γ.mg "list" = none) : b_law_begin.pre Γ k := by
  unfold b_law_begin; repeat' (first | refine And.intro ?_ ?_ | exact True.intro | assumption | (show 0 < _; decide))
theorem P_law_draw {Γ : Gm} {k : Nat} (z_int : Γ.mg "int" = none) (z_len : Γ.mg "len" = none) (nd : NoDig Γ.K) : b_law_draw.pre Γ k := by
  unfold b_law_draw; repeat' (first | refine And.intro ?_ ?_ | exact True.intro | assumption | (show 0 < _; decide))
theorem P_law_pick {Γ : Gm} {k : Nat} (z_len : Γ.mg "len" = none) (h_law_draw : Has Γ k F_law_draw) : b_law_pick.pre Γ k := by
  unfold b_law_pick; repeat' (first | refine And.intro ?_ ?_ | exact True.intro | assumption | (show 0 < _; decide))
theorem P_law_hosts {Γ : Gm} {k : Nat} (z_range : Γ.mg "range" = none) (h_law_pick : Has Γ k F_law_pick) (h_law_draw : Has Γ k F_law_draw) : b_law_hosts.pre Γ k := by
  unfold b_law_hosts; repeat' (first | refine And.intro ?_ ?_ | exact True.intro | assumption | (show 0 < _; decide))
theorem P_law_first_policy {Γ : Gm} {k : Nat} (z_range : Γ.mg "range" = none) (z_tuple : Γ.mg "tuple" = none) (z_len : Γ.mg "len" = none) : b_law_first_policy.pre Γ k := by
  unfold b_law_first_policy; repeat' (first | refine And.intro ?_ ?_ | exact True.intro | assumption | (show 0 < _; decide))
theorem P_law_shuffled {Γ : Gm} {k : Nat} (z_list : Γ.mg "list" = none) (z_range : Γ.mg "range" = none) (z_len : Γ.mg "len" = none) (h_law_draw : Has Γ k F_law_draw) : b_law_shuffled.pre Γ k := by
  unfold b_law_shuffled; repeat' (first | refine And.intro ?_ ?_ | exact True.intro | assumption | (show 0 < _; decide))
theorem P_law_rare {Γ : Gm} {k : Nat} (h_law_draw : Has Γ k F_law_draw) : b_law_rare.pre Γ k := by
  unfold b_law_rare; repeat' (first | refine And.intro ?_ ?_ | exact True.intro | assumption | (show 0 < _; decide))
theorem P_law_links {Γ : Gm} {k : Nat} (z_range : Γ.mg "range" = none) (z_len : Γ.mg "len" = none) (h_law_shuffled : Has Γ k F_law_shuffled) (h_law_rare : Has Γ k F_law_rare) (h_law_draw : Has Γ k F_law_draw) : b_law_links.pre Γ k := by
  unfold b_law_links; repeat' (first | refine And.intro ?_ ?_ | exact True.intro | assumption | (show 0 < _; decide))
theorem P_law_cube {Γ : Gm} {k : Nat} (h_law_draw : Has Γ k F_law_draw) : b_law_cube.pre Γ k := by
  unfold b_law_cube; repeat' (first | refine And.intro ?_ ?_ | exact True.intro | assumption | (show 0 < _; decide))
theorem P_law_targets {Γ : Gm} {k : Nat} (z_range : Γ.mg "range" = none) (z_len : Γ.mg "len" = none) : b_law_targets.pre Γ k := by
  unfold b_law_targets; repeat' (first | refine And.intro ?_ ?_ | exact True.intro | assumption | (show 0 < _; decide))
theorem P_law_wish {Γ : Gm} {k : Nat} (z_tuple : Γ.mg "tuple" = none) (z_len : Γ.mg "len" = none) (z_list : Γ.mg "list" = none) (z_range : Γ.mg "range" = none) (h_law_draw : Has Γ k F_law_draw) (h_law_cube : Has Γ k F_law_cube) (h_law_targets : Has Γ k F_law_targets) (h_law_pick : Has Γ k F_law_pick) (h_law_rare : Has Γ k F_law_rare) : b_law_wish.pre Γ k := by
  unfold b_law_wish; repeat' (first | refine And.intro ?_ ?_ | exact True.intro | assumption | (show 0 < _; decide))
theorem P_law_world {Γ : Gm} {k : Nat} (z_range : Γ.mg "range" = none) (h_law_hosts : Has Γ k F_law_hosts) (h_law_first_policy : Has Γ k F_law_first_policy) (h_law_links : Has Γ k F_law_links) (h_law_wish : Has Γ k F_law_wish) (h_law_draw : Has Γ k F_law_draw) : b_law_world.pre Γ k := by
  unfold b_law_world; repeat' (first | refine And.intro ?_ ?_ | exact True.intro | assumption | (show 0 < _; decide))
theorem P_law_small {Γ : Gm} {k : Nat} (h_law_world : Has Γ k F_law_world) (h_law_draw : Has Γ k F_law_draw) : b_law_small.pre Γ k := by
  unfold b_law_small; repeat' (first | refine And.intro ?_ ?_ | exact True.intro | assumption | (show 0 < _; decide))
theorem P_law_pool {Γ : Gm} {k : Nat}  : b_law_pool.pre Γ k := by
  unfold b_law_pool; repeat' (first | refine And.intro ?_ ?_ | exact True.intro | assumption | (show 0 < _; decide))
theorem P_law_names {Γ : Gm} {k : Nat} (z_len : Γ.mg "len" = none) (h_law_shuffled : Has Γ k F_law_shuffled) (h_law_pool : Has Γ k F_law_pool) : b_law_names.pre Γ k := by
  unfold b_law_names; repeat' (first | refine And.intro ?_ ?_ | exact True.intro | assumption | (show 0 < _; decide))
theorem P_law_mask_text {Γ : Gm} {k : Nat} (z_range : Γ.mg "range" = none) : b_law_mask_text.pre Γ k := by
  unfold b_law_mask_text; repeat' (first | refine And.intro ?_ ?_ | exact True.intro | assumption | (show 0 < _; decide))
theorem P_law_switch_item {Γ : Gm} {k : Nat} (h_law_mask_text : Has Γ k F_law_mask_text) : b_law_switch_item.pre Γ k := by
  unfold b_law_switch_item; repeat' (first | refine And.intro ?_ ?_ | exact True.intro | assumption | (show 0 < _; decide))
theorem P_law_pattern {Γ : Gm} {k : Nat} (z_range : Γ.mg "range" = none) : b_law_pattern.pre Γ k := by
  unfold b_law_pattern; repeat' (first | refine And.intro ?_ ?_ | exact True.intro | assumption | (show 0 < _; decide))
theorem P_law_bits {Γ : Gm} {k : Nat} (z_range : Γ.mg "range" = none) : b_law_bits.pre Γ k := by
  unfold b_law_bits; repeat' (first | refine And.intro ?_ ?_ | exact True.intro | assumption | (show 0 < _; decide))
theorem P_law_wish_item {Γ : Gm} {k : Nat} (z_tuple : Γ.mg "tuple" = none) (h_law_pattern : Has Γ k F_law_pattern) (h_law_bits : Has Γ k F_law_bits) : b_law_wish_item.pre Γ k := by
  unfold b_law_wish_item; repeat' (first | refine And.intro ?_ ?_ | exact True.intro | assumption | (show 0 < _; decide))
theorem P_law_tree {Γ : Gm} {k : Nat} (z_tuple : Γ.mg "tuple" = none) (z_range : Γ.mg "range" = none) (z_len : Γ.mg "len" = none) (h_law_switch_item : Has Γ k F_law_switch_item) (h_law_wish_item : Has Γ k F_law_wish_item) : b_law_tree.pre Γ k := by
  unfold b_law_tree; repeat' (first | refine And.intro ?_ ?_ | exact True.intro | assumption | (show 0 < _; decide))
theorem P_law_item {Γ : Gm} {k : Nat} (h_law_pick : Has Γ k F_law_pick) (h_law_draw : Has Γ k F_law_draw) : b_law_item.pre Γ k := by
  unfold b_law_item; repeat' (first | refine And.intro ?_ ?_ | exact True.intro | assumption | (show 0 < _; decide))
theorem P_law_edit {Γ : Gm} {k : Nat} (z_len : Γ.mg "len" = none) (h_law_draw : Has Γ k F_law_draw) (h_law_pick : Has Γ k F_law_pick) (h_law_item : Has Γ k F_law_item) : b_law_edit.pre Γ k := by
  unfold b_law_edit; repeat' (first | refine And.intro ?_ ?_ | exact True.intro | assumption | (show 0 < _; decide))
theorem P_law_due {Γ : Gm} {k : Nat} (z_list : Γ.mg "list" = none) (z_tuple : Γ.mg "tuple" = none) (z_range : Γ.mg "range" = none) (z_len : Γ.mg "len" = none) : b_law_due.pre Γ k := by
  unfold b_law_due; repeat' (first | refine And.intro ?_ ?_ | exact True.intro | assumption | (show 0 < _; decide))
theorem P_with_part {Γ : Gm} {k : Nat}  : b_with_part.pre Γ k := by
  unfold b_with_part; repeat' (first | refine And.intro ?_ ?_ | exact True.intro | assumption | (show 0 < _; decide))
theorem P_drop_item {Γ : Gm} {k : Nat} (z_tuple : Γ.mg "tuple" = none) (z_len : Γ.mg "len" = none) (X_Unknown : XOk Γ 0 "Unknown") (Y_Unknown : Γ.xi.xf 0 = "name") : b_drop_item.pre Γ k := by
  unfold b_drop_item; repeat' (first | refine And.intro ?_ ?_ | exact True.intro | assumption | (show 0 < _; decide))
theorem P_put_item {Γ : Gm} {k : Nat} (z_tuple : Γ.mg "tuple" = none) : b_put_item.pre Γ k := by
  unfold b_put_item; repeat' (first | refine And.intro ?_ ?_ | exact True.intro | assumption | (show 0 < _; decide))
theorem P_edit_tree {Γ : Gm} {k : Nat} (d_PLACES : ∃ p, Γ.mg "PLACES" = some (.ref p) ∧ ∀ z v, [(("wishes" : Str), 6), ("shares", 7), ("policies", 8)].lookup z = some v → KDct Γ.K Γ.w p z (.int v)) (h_with_part : Has Γ k F_with_part) (h_drop_item : Has Γ k F_drop_item) (h_put_item : Has Γ k F_put_item) : b_edit_tree.pre Γ k := by
  unfold b_edit_tree; repeat' (first | refine And.intro ?_ ?_ | exact True.intro | assumption | (show 0 < _; decide))
theorem P_law {Γ : Gm} {k : Nat} (z_range : Γ.mg "range" = none) (z_repr : Γ.mg "repr" = none) (z_isinstance : Γ.mg "isinstance" = none) (X_Unknown : XOk Γ 0 "Unknown") (Y_Unknown : Γ.xi.xf 0 = "name") (q_WishError : ∃ D, Γ.mg "WishError" = some (.ref D) ∧ PySem.W.kitOne Γ.K (.ref (Γ.xi.xc 0)) (.ref D) = some true) (qe_WishError : ExcC Γ.K (Γ.xi.xc 0)) (hgd : Γ.xi.gd = true) (h_law_begin : Has Γ k F_law_begin) (h_law_small : Has Γ k F_law_small) (h_law_names : Has Γ k F_law_names) (h_law_tree : Has Γ k F_law_tree) (h_law_edit : Has Γ k F_law_edit) (h_law_due : Has Γ k F_law_due) (h_law_draw : Has Γ k F_law_draw) (h_edit_tree : Has Γ k F_edit_tree) : b_law.pre Γ k := by
  unfold b_law; repeat' (first | refine And.intro ?_ ?_ | exact True.intro | assumption | (show 0 < _; decide))
/-! ### what the top has written, and the chain of the promises -/
set_option maxHeartbeats 0 in
theorem all_mk {w : World} {K : PySem.W.Frag} {h : Heap} {mg : Str → Option Value} {fa : Addr} (X : K.In h) (G : h.Ns mainGlobals mg) (hfa : mg "law" = some (.ref fa))
    {f0 : Addr} {od0 an0 : Option Addr} {sl0 : Array (Option Value)} {oc0 kV0 dc0 pm0 cd0 ct0 : Value}
    {f1 : Addr} {od1 an1 : Option Addr} {sl1 : Array (Option Value)} {oc1 kV1 dc1 pm1 cd1 ct1 : Value}
    {f2 : Addr} {od2 an2 : Option Addr} {sl2 : Array (Option Value)} {oc2 kV2 dc2 pm2 cd2 ct2 : Value}
    {f3 : Addr} {od3 an3 : Option Addr} {sl3 : Array (Option Value)} {oc3 kV3 dc3 pm3 cd3 ct3 : Value}
    {f4 : Addr} {od4 an4 : Option Addr} {sl4 : Array (Option Value)} {oc4 kV4 dc4 pm4 cd4 ct4 : Value}
    {f5 : Addr} {od5 an5 : Option Addr} {sl5 : Array (Option Value)} {oc5 kV5 dc5 pm5 cd5 ct5 : Value}
    {f6 : Addr} {od6 an6 : Option Addr} {sl6 : Array (Option Value)} {oc6 kV6 dc6 pm6 cd6 ct6 : Value}
    {f7 : Addr} {od7 an7 : Option Addr} {sl7 : Array (Option Value)} {oc7 kV7 dc7 pm7 cd7 ct7 : Value}
    {f8 : Addr} {od8 an8 : Option Addr} {sl8 : Array (Option Value)} {oc8 kV8 dc8 pm8 cd8 ct8 : Value}
    {f9 : Addr} {od9 an9 : Option Addr} {sl9 : Array (Option Value)} {oc9 kV9 dc9 pm9 cd9 ct9 : Value}
    {f10 : Addr} {od10 an10 : Option Addr} {sl10 : Array (Option Value)} {oc10 kV10 dc10 pm10 cd10 ct10 : Value}
    {f11 : Addr} {od11 an11 : Option Addr} {sl11 : Array (Option Value)} {oc11 kV11 dc11 pm11 cd11 ct11 : Value}
    {f12 : Addr} {od12 an12 : Option Addr} {sl12 : Array (Option Value)} {oc12 kV12 dc12 pm12 cd12 ct12 : Value}
    {f13 : Addr} {od13 an13 : Option Addr} {sl13 : Array (Option Value)} {oc13 kV13 dc13 pm13 cd13 ct13 : Value}
    {f14 : Addr} {od14 an14 : Option Addr} {sl14 : Array (Option Value)} {oc14 kV14 dc14 pm14 cd14 ct14 : Value}
    {f15 : Addr} {od15 an15 : Option Addr} {sl15 : Array (Option Value)} {oc15 kV15 dc15 pm15 cd15 ct15 : Value}
    {f16 : Addr} {od16 an16 : Option Addr} {sl16 : Array (Option Value)} {oc16 kV16 dc16 pm16 cd16 ct16 : Value}
    {f17 : Addr} {od17 an17 : Option Addr} {sl17 : Array (Option Value)} {oc17 kV17 dc17 pm17 cd17 ct17 : Value}
    {f18 : Addr} {od18 an18 : Option Addr} {sl18 : Array (Option Value)} {oc18 kV18 dc18 pm18 cd18 ct18 : Value}
    {f19 : Addr} {od19 an19 : Option Addr} {sl19 : Array (Option Value)} {oc19 kV19 dc19 pm19 cd19 ct19 : Value}
    {f20 : Addr} {od20 an20 : Option Addr} {sl20 : Array (Option Value)} {oc20 kV20 dc20 pm20 cd20 ct20 : Value}
    {f21 : Addr} {od21 an21 : Option Addr} {sl21 : Array (Option Value)} {oc21 kV21 dc21 pm21 cd21 ct21 : Value}
    {f22 : Addr} {od22 an22 : Option Addr} {sl22 : Array (Option Value)} {oc22 kV22 dc22 pm22 cd22 ct22 : Value}
    {f23 : Addr} {od23 an23 : Option Addr} {sl23 : Array (Option Value)} {oc23 kV23 dc23 pm23 cd23 ct23 : Value}
    {f24 : Addr} {od24 an24 : Option Addr} {sl24 : Array (Option Value)} {oc24 kV24 dc24 pm24 cd24 ct24 : Value}
    {f25 : Addr} {od25 an25 : Option Addr} {sl25 : Array (Option Value)} {oc25 kV25 dc25 pm25 cd25 ct25 : Value}
    {f26 : Addr} {od26 an26 : Option Addr} {sl26 : Array (Option Value)} {oc26 kV26 dc26 pm26 cd26 ct26 : Value}
    {f27 : Addr} {od27 an27 : Option Addr} {sl27 : Array (Option Value)} {oc27 kV27 dc27 pm27 cd27 ct27 : Value}
    {f28 : Addr} {od28 an28 : Option Addr} {sl28 : Array (Option Value)} {oc28 kV28 dc28 pm28 cd28 ct28 : Value}
    {p_PLACES : Addr} {es_PLACES : Array DictEntry} {n_PLACES : Nat} {t_PLACES_0 : Tok} {t_PLACES_1 : Tok} {t_PLACES_2 : Tok}
    {Cx0 Ix0 ccx0 cdax0 Wx0 Nx0 : Addr} {nmx0 qnx0 : Str} {bsx0 sbx0 : List Value} {snx0 : List Str} {abx0 : Bool} {colx0 : Option Bool} {ddx0 : Option Addr} {m0x0 m1x0 m2x0 m3x0 m5x0 : Option Value}
    {ocx0 dcx0 pmx0 ctx0 clx0 cclx0 : Value} {odx0 anx0 cldx0 cddx0 : Option Addr} {oslx0 cslx0 ccsx0 : Array (Option Value)} {vsx0 : Array Value} {filex0 : Str} {tfx0 : Tok}
    {D_WishError : Addr}
    (a0 : PySem.W.nsIn K mainGlobals "_law_begin" = some (some (.ref f0)))
    (l0 : K.lookup f0 = some ⟨oc0, od0, .func (PySem.W.fnOf "_law_begin" "_law_begin" (defArgs (top 10)) (defBody (top 10)) (defScope (top 10)) .none kV0 dc0 pm0 an0 cd0 ct0), sl0⟩)
    (c0 : PySem.W.codeIn K cd0 "_law_begin" = true)
    (k0 : PySem.W.keepIn K (.ref f0) = true)
    (a1 : PySem.W.nsIn K mainGlobals "_law_draw" = some (some (.ref f1)))
    (l1 : K.lookup f1 = some ⟨oc1, od1, .func (PySem.W.fnOf "_law_draw" "_law_draw" (defArgs (top 11)) (defBody (top 11)) (defScope (top 11)) .none kV1 dc1 pm1 an1 cd1 ct1), sl1⟩)
    (c1 : PySem.W.codeIn K cd1 "_law_draw" = true)
    (k1 : PySem.W.keepIn K (.ref f1) = true)
    (a2 : PySem.W.nsIn K mainGlobals "_law_pick" = some (some (.ref f2)))
    (l2 : K.lookup f2 = some ⟨oc2, od2, .func (PySem.W.fnOf "_law_pick" "_law_pick" (defArgs (top 12)) (defBody (top 12)) (defScope (top 12)) .none kV2 dc2 pm2 an2 cd2 ct2), sl2⟩)
    (c2 : PySem.W.codeIn K cd2 "_law_pick" = true)
    (k2 : PySem.W.keepIn K (.ref f2) = true)
    (a3 : PySem.W.nsIn K mainGlobals "_law_hosts" = some (some (.ref f3)))
    (l3 : K.lookup f3 = some ⟨oc3, od3, .func (PySem.W.fnOf "_law_hosts" "_law_hosts" (defArgs (top 19)) (defBody (top 19)) (defScope (top 19)) .none kV3 dc3 pm3 an3 cd3 ct3), sl3⟩)
    (c3 : PySem.W.codeIn K cd3 "_law_hosts" = true)
    (k3 : PySem.W.keepIn K (.ref f3) = true)
    (a4 : PySem.W.nsIn K mainGlobals "_law_first_policy" = some (some (.ref f4)))
    (l4 : K.lookup f4 = some ⟨oc4, od4, .func (PySem.W.fnOf "_law_first_policy" "_law_first_policy" (defArgs (top 22)) (defBody (top 22)) (defScope (top 22)) .none kV4 dc4 pm4 an4 cd4 ct4), sl4⟩)
    (c4 : PySem.W.codeIn K cd4 "_law_first_policy" = true)
    (k4 : PySem.W.keepIn K (.ref f4) = true)
    (a5 : PySem.W.nsIn K mainGlobals "_law_shuffled" = some (some (.ref f5)))
    (l5 : K.lookup f5 = some ⟨oc5, od5, .func (PySem.W.fnOf "_law_shuffled" "_law_shuffled" (defArgs (top 14)) (defBody (top 14)) (defScope (top 14)) .none kV5 dc5 pm5 an5 cd5 ct5), sl5⟩)
    (c5 : PySem.W.codeIn K cd5 "_law_shuffled" = true)
    (k5 : PySem.W.keepIn K (.ref f5) = true)
    (a6 : PySem.W.nsIn K mainGlobals "_law_rare" = some (some (.ref f6)))
    (l6 : K.lookup f6 = some ⟨oc6, od6, .func (PySem.W.fnOf "_law_rare" "_law_rare" (defArgs (top 13)) (defBody (top 13)) (defScope (top 13)) .none kV6 dc6 pm6 an6 cd6 ct6), sl6⟩)
    (c6 : PySem.W.codeIn K cd6 "_law_rare" = true)
    (k6 : PySem.W.keepIn K (.ref f6) = true)
    (a7 : PySem.W.nsIn K mainGlobals "_law_links" = some (some (.ref f7)))
    (l7 : K.lookup f7 = some ⟨oc7, od7, .func (PySem.W.fnOf "_law_links" "_law_links" (defArgs (top 18)) (defBody (top 18)) (defScope (top 18)) .none kV7 dc7 pm7 an7 cd7 ct7), sl7⟩)
    (c7 : PySem.W.codeIn K cd7 "_law_links" = true)
    (k7 : PySem.W.keepIn K (.ref f7) = true)
    (a8 : PySem.W.nsIn K mainGlobals "_law_cube" = some (some (.ref f8)))
    (l8 : K.lookup f8 = some ⟨oc8, od8, .func (PySem.W.fnOf "_law_cube" "_law_cube" (defArgs (top 17)) (defBody (top 17)) (defScope (top 17)) .none kV8 dc8 pm8 an8 cd8 ct8), sl8⟩)
    (c8 : PySem.W.codeIn K cd8 "_law_cube" = true)
    (k8 : PySem.W.keepIn K (.ref f8) = true)
    (a9 : PySem.W.nsIn K mainGlobals "_law_targets" = some (some (.ref f9)))
    (l9 : K.lookup f9 = some ⟨oc9, od9, .func (PySem.W.fnOf "_law_targets" "_law_targets" (defArgs (top 20)) (defBody (top 20)) (defScope (top 20)) .none kV9 dc9 pm9 an9 cd9 ct9), sl9⟩)
    (c9 : PySem.W.codeIn K cd9 "_law_targets" = true)
    (k9 : PySem.W.keepIn K (.ref f9) = true)
    (a10 : PySem.W.nsIn K mainGlobals "_law_wish" = some (some (.ref f10)))
    (l10 : K.lookup f10 = some ⟨oc10, od10, .func (PySem.W.fnOf "_law_wish" "_law_wish" (defArgs (top 21)) (defBody (top 21)) (defScope (top 21)) .none kV10 dc10 pm10 an10 cd10 ct10), sl10⟩)
    (c10 : PySem.W.codeIn K cd10 "_law_wish" = true)
    (k10 : PySem.W.keepIn K (.ref f10) = true)
    (a11 : PySem.W.nsIn K mainGlobals "_law_world" = some (some (.ref f11)))
    (l11 : K.lookup f11 = some ⟨oc11, od11, .func (PySem.W.fnOf "_law_world" "_law_world" (defArgs (top 23)) (defBody (top 23)) (defScope (top 23)) .none kV11 dc11 pm11 an11 cd11 ct11), sl11⟩)
    (c11 : PySem.W.codeIn K cd11 "_law_world" = true)
    (k11 : PySem.W.keepIn K (.ref f11) = true)
    (a12 : PySem.W.nsIn K mainGlobals "_law_small" = some (some (.ref f12)))
    (l12 : K.lookup f12 = some ⟨oc12, od12, .func (PySem.W.fnOf "_law_small" "_law_small" (defArgs (top 24)) (defBody (top 24)) (defScope (top 24)) .none kV12 dc12 pm12 an12 cd12 ct12), sl12⟩)
    (c12 : PySem.W.codeIn K cd12 "_law_small" = true)
    (k12 : PySem.W.keepIn K (.ref f12) = true)
    (a13 : PySem.W.nsIn K mainGlobals "_law_pool" = some (some (.ref f13)))
    (l13 : K.lookup f13 = some ⟨oc13, od13, .func (PySem.W.fnOf "_law_pool" "_law_pool" (defArgs (top 15)) (defBody (top 15)) (defScope (top 15)) .none kV13 dc13 pm13 an13 cd13 ct13), sl13⟩)
    (c13 : PySem.W.codeIn K cd13 "_law_pool" = true)
    (k13 : PySem.W.keepIn K (.ref f13) = true)
    (a14 : PySem.W.nsIn K mainGlobals "_law_names" = some (some (.ref f14)))
    (l14 : K.lookup f14 = some ⟨oc14, od14, .func (PySem.W.fnOf "_law_names" "_law_names" (defArgs (top 27)) (defBody (top 27)) (defScope (top 27)) .none kV14 dc14 pm14 an14 cd14 ct14), sl14⟩)
    (c14 : PySem.W.codeIn K cd14 "_law_names" = true)
    (k14 : PySem.W.keepIn K (.ref f14) = true)
    (a15 : PySem.W.nsIn K mainGlobals "_law_mask_text" = some (some (.ref f15)))
    (l15 : K.lookup f15 = some ⟨oc15, od15, .func (PySem.W.fnOf "_law_mask_text" "_law_mask_text" (defArgs (top 26)) (defBody (top 26)) (defScope (top 26)) .none kV15 dc15 pm15 an15 cd15 ct15), sl15⟩)
    (c15 : PySem.W.codeIn K cd15 "_law_mask_text" = true)
    (k15 : PySem.W.keepIn K (.ref f15) = true)
    (a16 : PySem.W.nsIn K mainGlobals "_law_switch_item" = some (some (.ref f16)))
    (l16 : K.lookup f16 = some ⟨oc16, od16, .func (PySem.W.fnOf "_law_switch_item" "_law_switch_item" (defArgs (top 29)) (defBody (top 29)) (defScope (top 29)) .none kV16 dc16 pm16 an16 cd16 ct16), sl16⟩)
    (c16 : PySem.W.codeIn K cd16 "_law_switch_item" = true)
    (k16 : PySem.W.keepIn K (.ref f16) = true)
    (a17 : PySem.W.nsIn K mainGlobals "_law_pattern" = some (some (.ref f17)))
    (l17 : K.lookup f17 = some ⟨oc17, od17, .func (PySem.W.fnOf "_law_pattern" "_law_pattern" (defArgs (top 25)) (defBody (top 25)) (defScope (top 25)) .none kV17 dc17 pm17 an17 cd17 ct17), sl17⟩)
    (c17 : PySem.W.codeIn K cd17 "_law_pattern" = true)
    (k17 : PySem.W.keepIn K (.ref f17) = true)
    (a18 : PySem.W.nsIn K mainGlobals "_law_bits" = some (some (.ref f18)))
    (l18 : K.lookup f18 = some ⟨oc18, od18, .func (PySem.W.fnOf "_law_bits" "_law_bits" (defArgs (top 16)) (defBody (top 16)) (defScope (top 16)) .none kV18 dc18 pm18 an18 cd18 ct18), sl18⟩)
    (c18 : PySem.W.codeIn K cd18 "_law_bits" = true)
    (k18 : PySem.W.keepIn K (.ref f18) = true)
    (a19 : PySem.W.nsIn K mainGlobals "_law_wish_item" = some (some (.ref f19)))
    (l19 : K.lookup f19 = some ⟨oc19, od19, .func (PySem.W.fnOf "_law_wish_item" "_law_wish_item" (defArgs (top 28)) (defBody (top 28)) (defScope (top 28)) .none kV19 dc19 pm19 an19 cd19 ct19), sl19⟩)
    (c19 : PySem.W.codeIn K cd19 "_law_wish_item" = true)
    (k19 : PySem.W.keepIn K (.ref f19) = true)
    (a20 : PySem.W.nsIn K mainGlobals "_law_tree" = some (some (.ref f20)))
    (l20 : K.lookup f20 = some ⟨oc20, od20, .func (PySem.W.fnOf "_law_tree" "_law_tree" (defArgs (top 30)) (defBody (top 30)) (defScope (top 30)) .none kV20 dc20 pm20 an20 cd20 ct20), sl20⟩)
    (c20 : PySem.W.codeIn K cd20 "_law_tree" = true)
    (k20 : PySem.W.keepIn K (.ref f20) = true)
    (a21 : PySem.W.nsIn K mainGlobals "_law_item" = some (some (.ref f21)))
    (l21 : K.lookup f21 = some ⟨oc21, od21, .func (PySem.W.fnOf "_law_item" "_law_item" (defArgs (top 31)) (defBody (top 31)) (defScope (top 31)) .none kV21 dc21 pm21 an21 cd21 ct21), sl21⟩)
    (c21 : PySem.W.codeIn K cd21 "_law_item" = true)
    (k21 : PySem.W.keepIn K (.ref f21) = true)
    (a22 : PySem.W.nsIn K mainGlobals "_law_edit" = some (some (.ref f22)))
    (l22 : K.lookup f22 = some ⟨oc22, od22, .func (PySem.W.fnOf "_law_edit" "_law_edit" (defArgs (top 32)) (defBody (top 32)) (defScope (top 32)) .none kV22 dc22 pm22 an22 cd22 ct22), sl22⟩)
    (c22 : PySem.W.codeIn K cd22 "_law_edit" = true)
    (k22 : PySem.W.keepIn K (.ref f22) = true)
    (a23 : PySem.W.nsIn K mainGlobals "_law_due" = some (some (.ref f23)))
    (l23 : K.lookup f23 = some ⟨oc23, od23, .func (PySem.W.fnOf "_law_due" "_law_due" (defArgs (top 33)) (defBody (top 33)) (defScope (top 33)) .none kV23 dc23 pm23 an23 cd23 ct23), sl23⟩)
    (c23 : PySem.W.codeIn K cd23 "_law_due" = true)
    (k23 : PySem.W.keepIn K (.ref f23) = true)
    (a24 : PySem.W.nsIn K mainGlobals "with_part" = some (some (.ref f24)))
    (l24 : K.lookup f24 = some ⟨oc24, od24, .func (PySem.W.fnOf "with_part" "with_part" (defArgs (top 5)) (defBody (top 5)) (defScope (top 5)) .none kV24 dc24 pm24 an24 cd24 ct24), sl24⟩)
    (c24 : PySem.W.codeIn K cd24 "with_part" = true)
    (k24 : PySem.W.keepIn K (.ref f24) = true)
    (a25 : PySem.W.nsIn K mainGlobals "drop_item" = some (some (.ref f25)))
    (l25 : K.lookup f25 = some ⟨oc25, od25, .func (PySem.W.fnOf "drop_item" "drop_item" (defArgs (top 7)) (defBody (top 7)) (defScope (top 7)) .none kV25 dc25 pm25 an25 cd25 ct25), sl25⟩)
    (c25 : PySem.W.codeIn K cd25 "drop_item" = true)
    (k25 : PySem.W.keepIn K (.ref f25) = true)
    (a26 : PySem.W.nsIn K mainGlobals "put_item" = some (some (.ref f26)))
    (l26 : K.lookup f26 = some ⟨oc26, od26, .func (PySem.W.fnOf "put_item" "put_item" (defArgs (top 6)) (defBody (top 6)) (defScope (top 6)) .none kV26 dc26 pm26 an26 cd26 ct26), sl26⟩)
    (c26 : PySem.W.codeIn K cd26 "put_item" = true)
    (k26 : PySem.W.keepIn K (.ref f26) = true)
    (a27 : PySem.W.nsIn K mainGlobals "edit_tree" = some (some (.ref f27)))
    (l27 : K.lookup f27 = some ⟨oc27, od27, .func (PySem.W.fnOf "edit_tree" "edit_tree" (defArgs (top 8)) (defBody (top 8)) (defScope (top 8)) .none kV27 dc27 pm27 an27 cd27 ct27), sl27⟩)
    (c27 : PySem.W.codeIn K cd27 "edit_tree" = true)
    (k27 : PySem.W.keepIn K (.ref f27) = true)
    (a28 : PySem.W.nsIn K mainGlobals "law" = some (some (.ref f28)))
    (l28 : K.lookup f28 = some ⟨oc28, od28, .func (PySem.W.fnOf "law" "law" (defArgs (top 34)) (defBody (top 34)) (defScope (top 34)) .none kV28 dc28 pm28 an28 cd28 ct28), sl28⟩)
    (c28 : PySem.W.codeIn K cd28 "law" = true)
    (k28 : PySem.W.keepIn K (.ref f28) = true)
    (z_list : PySem.W.nsIn K mainGlobals "list" = some none)
    (z_int : PySem.W.nsIn K mainGlobals "int" = some none)
    (z_len : PySem.W.nsIn K mainGlobals "len" = some none)
    (z_range : PySem.W.nsIn K mainGlobals "range" = some none)
    (z_tuple : PySem.W.nsIn K mainGlobals "tuple" = some none)
    (z_repr : PySem.W.nsIn K mainGlobals "repr" = some none)
    (z_isinstance : PySem.W.nsIn K mainGlobals "isinstance" = some none)
    (z_super : PySem.W.nsIn K mainGlobals "super" = some none)
    (z_dig : PySem.W.nsIn K cStatics "sys.int_max_str_digits" = some none)
    (d_PLACES : PySem.W.nsIn K mainGlobals "PLACES" = some (some (.ref p_PLACES)))
    (e_PLACES : K.lookup p_PLACES = some ⟨.type "dict", none, .dict es_PLACES n_PLACES, #[]⟩)
    (f_PLACES : PySem.W.KeysLit w.params es_PLACES.toList)
    (i_PLACES_0 : PySem.W.nsIn K p_PLACES "wishes" = some (some (.int 6 t_PLACES_0)))
    (i_PLACES_1 : PySem.W.nsIn K p_PLACES "shares" = some (some (.int 7 t_PLACES_1)))
    (i_PLACES_2 : PySem.W.nsIn K p_PLACES "policies" = some (some (.int 8 t_PLACES_2)))
    (aCx0 : PySem.W.nsIn K mainGlobals "Unknown" = some (some (.ref Cx0)))
    (xLx0 : K.lookup Cx0 = some (excClassObj nmx0 qnx0 Cx0 Nx0 bsx0 [.ref Wx0, .type "ValueError", .type "Exception", .type "BaseException", .type "object"] true snx0 sbx0 abx0 colx0 ddx0 m0x0 m1x0 m2x0 m3x0 m5x0 "ValueError.__new__"))
    (sax0 : PySem.W.findIn K (.ref Cx0) "__setattr__" = some (some (.builtin "object.__setattr__")))
    (gax0 : PySem.W.findIn K (.ref Cx0) "__getattribute__" = some (some (.builtin "BaseException.__getattribute__")))
    (ggx0 : PySem.W.findIn K (.ref Cx0) "__getattr__" = some none)
    (nbx0 : PySem.W.findIn K (.ref Cx0) "name" = some none)
    (aix0 : PySem.W.findIn K (.ref Cx0) "__init__" = some (some (.ref Ix0)))
    (tix0 : PySem.W.typeIn K (.ref Ix0) = some (.type "function"))
    (lix0 : K.lookup Ix0 = some ⟨ocx0, odx0, .func (PySem.W.ksFn "__init__" "Unknown.__init__" (PySem.OwnX.iA "name" ⟨6, 17, 6, 21⟩ ⟨6, 23, 6, 27⟩) (PySem.OwnX.iB "name" "unknown name" 0 ⟨7, 8, 7, 13⟩ ⟨7, 8, 7, 15⟩ ⟨7, 8, 7, 24⟩ ⟨7, 25, 7, 39⟩ ⟨7, 8, 7, 40⟩ ⟨7, 8, 7, 40⟩ ⟨8, 8, 8, 12⟩ ⟨8, 8, 8, 17⟩ ⟨8, 20, 8, 24⟩ ⟨8, 8, 8, 24⟩) (PySem.OwnX.iS "name") .none .none dcx0 pmx0 anx0 (.ref cdax0) ctx0 ccx0), oslx0⟩)
    (cix0 : PySem.W.codeIn K (.ref cdax0) "Unknown.__init__" = true)
    (kCx0 : PySem.W.keepIn K (.ref Cx0) = true)
    (eCx0 : PySem.W.subIn K (.ref Cx0) (.type "BaseException") = some true)
    (tCx0 : PySem.W.typeIn K (.ref Cx0) = some (.type "type"))
    (hCx0 : PySem.W.hasDictIn K Cx0 = true)
    (iCx0 : PySem.W.isClsIn K Cx0 = true)
    (sCx0 : PySem.W.subIn K (.ref Cx0) (.ref Cx0) = some true)
    (mCx0 : PySem.W.mroIn K Cx0 (.ref Cx0) = some true)
    (sVx0 : PySem.W.subIn K (.ref Cx0) (.type "ValueError") = some true)
    (hmx0 : PySem.W.ks_superIn K Cx0 Cx0 "__init__" = some (some (.builtin "ValueError.__init__")))
    (lcx0 : K.lookup ccx0 = some ⟨clx0, cldx0, .cell (some (.ref Cx0)), cslx0⟩)
    (ldx0 : K.lookup cdax0 = some ⟨cclx0, cddx0, .fields vsx0, ccsx0⟩)
    (vdx0 : vsx0[2]? = some (.str filex0 tfx0))
    (fdx0 : ((PySem.Challenge.pw_wishweather_k81_edits.main.file : Str) == filex0) = true)
    (aD_WishError : PySem.W.nsIn K mainGlobals "WishError" = some (some (.ref D_WishError)))
    (iD_WishError : PySem.W.isClsIn K D_WishError = true)
    (tD_WishError : PySem.W.typeIn K (.ref D_WishError) = some (.type "type"))
    (sD_WishError_x0 : PySem.W.subIn K (.ref Cx0) (.ref D_WishError) = some true)
    (hax0 : PySem.W.findIn K (.ref Cx0) "__class__" = some (some (.builtin "object.__class__")))
    (hox0 : PySem.W.mroIn K Cx0 (.type "object") = some true)
    (hn_get : PySem.W.specialIn K (.builtin "object.__class__") "__get__" = some (some (.builtin "getset_descriptor.__get__")))
    (ht_get : PySem.W.takesIn K (.builtin "object.__class__") = some true)
    (opq : PySem.W.nsIn K cStatics "thirdparty.any" = some none)
    : ∀ base : Heap, K.In base → base.Ns mainGlobals mg → HomeOk PySem.Challenge.pw_wishweather_k81_edits w K mg base fa := by
  have e := hfa.symm.trans (PySem.W.mg_of X G a28)
  cases e
  have z_list := PySem.W.mg_none_of X G z_list
  have z_int := PySem.W.mg_none_of X G z_int
  have z_len := PySem.W.mg_none_of X G z_len
  have z_range := PySem.W.mg_none_of X G z_range
  have z_tuple := PySem.W.mg_none_of X G z_tuple
  have z_repr := PySem.W.mg_none_of X G z_repr
  have z_isinstance := PySem.W.mg_none_of X G z_isinstance
  have z_super := PySem.W.mg_none_of X G z_super
  have Tx0 : PySem.OwnX.Txt K PySem.Challenge.pw_wishweather_k81_edits mg "Unknown" "Unknown.__init__" "name" "unknown name" Cx0 Ix0 ccx0 cdax0 :=
    { gC := PySem.W.mg_of X G aCx0, sup := z_super, cls := ⟨_, _, _, _, _, _, _, _, _, _, _, _, _, _, _, xLx0, rfl⟩, sa := sax0, ga := gax0, gg := ggx0, noN := nbx0, iC := aix0, tC := tix0, kC := kCx0, exC := eCx0, tyC := tCx0, hdC := hCx0, te := exm_self eCx0 iCx0 tCx0 sCx0,
      sub := mCx0, subV := sVx0, opq := opq, hm := hmx0, htop := by decide +kernel, cell := ⟨_, _, _, lcx0⟩, code := ⟨_, _, _, _, _, _, ldx0, vdx0, fdx0⟩, fn := ⟨_, _, _, _, _, _, _, _, _, _, _, _, _, _, _, _, _, _, _, _, by decide +kernel, lix0, cix0⟩,
      bnd := fun _ _ _ _ _ _ _ _ _ _ _ _ _ _ _ _ _ _ _ => rfl, f1 := by decide +kernel, f2 := by decide +kernel, f3 := by decide +kernel, f4 := by decide +kernel, f5 := by decide +kernel, f6 := by decide +kernel, f7 := by decide +kernel }
  have F0 := fun_mk (st := top 10) l0 c0 k0
  have b0 := F0.binds (ps := ["script"]) fun _ _ _ _ _ _ us hl => match us, hl with | [_], _ => rfl
  have F1 := fun_mk (st := top 11) l1 c1 k1
  have b1 := F1.binds (ps := ["d", "many"]) fun _ _ _ _ _ _ us hl => match us, hl with | [_, _], _ => rfl
  have F2 := fun_mk (st := top 12) l2 c2 k2
  have b2 := F2.binds (ps := ["d", "row"]) fun _ _ _ _ _ _ us hl => match us, hl with | [_, _], _ => rfl
  have F3 := fun_mk (st := top 19) l3 c3 k3
  have b3 := F3.binds (ps := ["d", "many", "switches", "tenants"]) fun _ _ _ _ _ _ us hl => match us, hl with | [_, _, _, _], _ => rfl
  have F4 := fun_mk (st := top 22) l4 c4 k4
  have b4 := F4.binds (ps := ["w"]) fun _ _ _ _ _ _ us hl => match us, hl with | [_], _ => rfl
  have F5 := fun_mk (st := top 14) l5 c5 k5
  have b5 := F5.binds (ps := ["d", "row"]) fun _ _ _ _ _ _ us hl => match us, hl with | [_, _], _ => rfl
  have F6 := fun_mk (st := top 13) l6 c6 k6
  have b6 := F6.binds (ps := ["d", "many"]) fun _ _ _ _ _ _ us hl => match us, hl with | [_, _], _ => rfl
  have F7 := fun_mk (st := top 18) l7 c7 k7
  have b7 := F7.binds (ps := ["d", "many", "extra"]) fun _ _ _ _ _ _ us hl => match us, hl with | [_, _, _], _ => rfl
  have F8 := fun_mk (st := top 17) l8 c8 k8
  have b8 := F8.binds (ps := ["d", "bits"]) fun _ _ _ _ _ _ us hl => match us, hl with | [_, _], _ => rfl
  have F9 := fun_mk (st := top 20) l9 c9 k9
  have b9 := F9.binds (ps := ["w", "host"]) fun _ _ _ _ _ _ us hl => match us, hl with | [_, _], _ => rfl
  have F10 := fun_mk (st := top 21) l10 c10 k10
  have b10 := F10.binds (ps := ["d", "w", "most_via", "most_spare"]) fun _ _ _ _ _ _ us hl => match us, hl with | [_, _, _, _], _ => rfl
  have F11 := fun_mk (st := top 23) l11 c11 k11
  have b11 := F11.binds (ps := ["d", "switches", "extra", "hosts", "wishes", "data", "marks", "most_via", "most_spare"]) fun _ _ _ _ _ _ us hl => match us, hl with | [_, _, _, _, _, _, _, _, _], _ => rfl
  have F12 := fun_mk (st := top 24) l12 c12 k12
  have b12 := F12.binds (ps := ["d"]) fun _ _ _ _ _ _ us hl => match us, hl with | [_], _ => rfl
  have F13 := fun_mk (st := top 15) l13 c13 k13
  have b13 := F13.binds (ps := []) fun _ _ _ _ _ _ us hl => match us, hl with | [], _ => rfl
  have F14 := fun_mk (st := top 27) l14 c14 k14
  have b14 := F14.binds (ps := ["d", "w"]) fun _ _ _ _ _ _ us hl => match us, hl with | [_, _], _ => rfl
  have F15 := fun_mk (st := top 26) l15 c15 k15
  have b15 := F15.binds (ps := ["mask", "bits"]) fun _ _ _ _ _ _ us hl => match us, hl with | [_, _], _ => rfl
  have F16 := fun_mk (st := top 29) l16 c16 k16
  have b16 := F16.binds (ps := ["w", "names", "k"]) fun _ _ _ _ _ _ us hl => match us, hl with | [_, _, _], _ => rfl
  have F17 := fun_mk (st := top 25) l17 c17 k17
  have b17 := F17.binds (ps := ["care", "value", "bits"]) fun _ _ _ _ _ _ us hl => match us, hl with | [_, _, _], _ => rfl
  have F18 := fun_mk (st := top 16) l18 c18 k18
  have b18 := F18.binds (ps := ["mask"]) fun _ _ _ _ _ _ us hl => match us, hl with | [_], _ => rfl
  have F19 := fun_mk (st := top 28) l19 c19 k19
  have b19 := F19.binds (ps := ["w", "names", "k"]) fun _ _ _ _ _ _ us hl => match us, hl with | [_, _, _], _ => rfl
  have F20 := fun_mk (st := top 30) l20 c20 k20
  have b20 := F20.binds (ps := ["w", "names"]) fun _ _ _ _ _ _ us hl => match us, hl with | [_, _], _ => rfl
  have F21 := fun_mk (st := top 31) l21 c21 k21
  have b21 := F21.binds (ps := ["d", "names", "kind", "name"]) fun _ _ _ _ _ _ us hl => match us, hl with | [_, _, _, _], _ => rfl
  have F22 := fun_mk (st := top 32) l22 c22 k22
  have b22 := F22.binds (ps := ["d", "tree", "names"]) fun _ _ _ _ _ _ us hl => match us, hl with | [_, _, _], _ => rfl
  have F23 := fun_mk (st := top 33) l23 c23 k23
  have b23 := F23.binds (ps := ["tree", "edit"]) fun _ _ _ _ _ _ us hl => match us, hl with | [_, _], _ => rfl
  have F24 := fun_mk (st := top 5) l24 c24 k24
  have b24 := F24.binds (ps := ["tree", "place", "part"]) fun _ _ _ _ _ _ us hl => match us, hl with | [_, _, _], _ => rfl
  have F25 := fun_mk (st := top 7) l25 c25 k25
  have b25 := F25.binds (ps := ["items", "name"]) fun _ _ _ _ _ _ us hl => match us, hl with | [_, _], _ => rfl
  have F26 := fun_mk (st := top 6) l26 c26 k26
  have b26 := F26.binds (ps := ["items", "item"]) fun _ _ _ _ _ _ us hl => match us, hl with | [_, _], _ => rfl
  have F27 := fun_mk (st := top 8) l27 c27 k27
  have b27 := F27.binds (ps := ["tree", "edit"]) fun _ _ _ _ _ _ us hl => match us, hl with | [_, _], _ => rfl
  have F28 := fun_mk (st := top 34) l28 c28 k28
  have b28 := F28.binds (ps := ["script"]) fun _ _ _ _ _ _ us hl => match us, hl with | [_], _ => rfl
  intro base _ _
  let xi : XI := ⟨fun c => match c with | 0 => Cx0 | _ => 0, fun c => match c with | 0 => "name" | _ => "_", false⟩
  let xj : XI := ⟨fun c => match c with | 0 => Cx0 | _ => 0, fun c => match c with | 0 => "name" | _ => "_", true⟩
  have DK_PLACES_0 : KDct K w p_PLACES "wishes" (.int 6) := ⟨es_PLACES, n_PLACES, _, e_PLACES, f_PLACES, i_PLACES_0, _, rfl⟩
  have DK_PLACES_1 : KDct K w p_PLACES "shares" (.int 7) := ⟨es_PLACES, n_PLACES, _, e_PLACES, f_PLACES, i_PLACES_1, _, rfl⟩
  have DK_PLACES_2 : KDct K w p_PLACES "policies" (.int 8) := ⟨es_PLACES, n_PLACES, _, e_PLACES, f_PLACES, i_PLACES_2, _, rfl⟩
  have DD_PLACES : ∃ p, mg "PLACES" = some (.ref p) ∧ ∀ z v, [(("wishes" : Str), 6), ("shares", 7), ("policies", 8)].lookup z = some v → KDct K w p z (.int v) := ⟨p_PLACES, PySem.W.mg_of X G d_PLACES, tab_all (p := fun z v => KDct K w p_PLACES z (.int v)) (tab_cons (p := fun z v => KDct K w p_PLACES z (.int v)) DK_PLACES_0 (tab_cons (p := fun z v => KDct K w p_PLACES z (.int v)) DK_PLACES_1 (tab_cons (p := fun z v => KDct K w p_PLACES z (.int v)) DK_PLACES_2 (tab_nil (p := fun z v => KDct K w p_PLACES z (.int v))))))⟩
  have QQ_WishError : ∃ D, mg "WishError" = some (.ref D) ∧ PySem.W.kitOne K (.ref Cx0) (.ref D) = some true := ⟨D_WishError, PySem.W.mg_of X G aD_WishError, kit_of iD_WishError tD_WishError sD_WishError_x0⟩
  have QE_WishError : ExcC K Cx0 := ⟨gax0, ggx0, eCx0, hCx0, hax0, hn_get, ht_get, hox0⟩
  have Xx0 : XOk ⟨PySem.Challenge.pw_wishweather_k81_edits, w, K, mg, base, xi⟩ 0 "Unknown" := ⟨_, _, _, _, _, _, Tx0, rfl⟩
  have Yx0 : xi.xf 0 = "name" := rfl
  have Xx0j : XOk ⟨PySem.Challenge.pw_wishweather_k81_edits, w, K, mg, base, xj⟩ 0 "Unknown" := ⟨_, _, _, _, _, _, Tx0, rfl⟩
  have Yx0j : xj.xf 0 = "name" := rfl
  have ND : NoDig K := z_dig
  have H0 : Has ⟨PySem.Challenge.pw_wishweather_k81_edits, w, K, mg, base, xi⟩ 1 F_law_begin := by
    exact has_of rfl E_law_begin D_law_begin rfl rfl F0 b0 (PySem.W.mg_of X G a0) (P_law_begin z_list)
  have H1 : Has ⟨PySem.Challenge.pw_wishweather_k81_edits, w, K, mg, base, xi⟩ 1 F_law_draw := by
    exact has_of rfl E_law_draw D_law_draw rfl rfl F1 b1 (PySem.W.mg_of X G a1) (P_law_draw z_int z_len ND)
  have H2 : Has ⟨PySem.Challenge.pw_wishweather_k81_edits, w, K, mg, base, xi⟩ 2 F_law_pick := by
    exact has_of rfl E_law_pick D_law_pick rfl rfl F2 b2 (PySem.W.mg_of X G a2) (P_law_pick z_len (H1.mono (by decide)))
  have H3 : Has ⟨PySem.Challenge.pw_wishweather_k81_edits, w, K, mg, base, xi⟩ 3 F_law_hosts := by
    exact has_of rfl E_law_hosts D_law_hosts rfl rfl F3 b3 (PySem.W.mg_of X G a3) (P_law_hosts z_range (H2.mono (by decide)) (H1.mono (by decide)))
  have H4 : Has ⟨PySem.Challenge.pw_wishweather_k81_edits, w, K, mg, base, xi⟩ 1 F_law_first_policy := by
    exact has_of rfl E_law_first_policy D_law_first_policy rfl rfl F4 b4 (PySem.W.mg_of X G a4) (P_law_first_policy z_range z_tuple z_len)
  have H5 : Has ⟨PySem.Challenge.pw_wishweather_k81_edits, w, K, mg, base, xi⟩ 2 F_law_shuffled := by
    exact has_of rfl E_law_shuffled D_law_shuffled rfl rfl F5 b5 (PySem.W.mg_of X G a5) (P_law_shuffled z_list z_range z_len (H1.mono (by decide)))
  have H6 : Has ⟨PySem.Challenge.pw_wishweather_k81_edits, w, K, mg, base, xi⟩ 2 F_law_rare := by
    exact has_of rfl E_law_rare D_law_rare rfl rfl F6 b6 (PySem.W.mg_of X G a6) (P_law_rare (H1.mono (by decide)))
  have H7 : Has ⟨PySem.Challenge.pw_wishweather_k81_edits, w, K, mg, base, xi⟩ 3 F_law_links := by
    exact has_of rfl E_law_links D_law_links rfl rfl F7 b7 (PySem.W.mg_of X G a7) (P_law_links z_range z_len (H5.mono (by decide)) (H6.mono (by decide)) (H1.mono (by decide)))
  have H8 : Has ⟨PySem.Challenge.pw_wishweather_k81_edits, w, K, mg, base, xi⟩ 2 F_law_cube := by
    exact has_of rfl E_law_cube D_law_cube rfl rfl F8 b8 (PySem.W.mg_of X G a8) (P_law_cube (H1.mono (by decide)))
  have H9 : Has ⟨PySem.Challenge.pw_wishweather_k81_edits, w, K, mg, base, xi⟩ 1 F_law_targets := by
    exact has_of rfl E_law_targets D_law_targets rfl rfl F9 b9 (PySem.W.mg_of X G a9) (P_law_targets z_range z_len)
  have H10 : Has ⟨PySem.Challenge.pw_wishweather_k81_edits, w, K, mg, base, xi⟩ 3 F_law_wish := by
    exact has_of rfl E_law_wish D_law_wish rfl rfl F10 b10 (PySem.W.mg_of X G a10) (P_law_wish z_tuple z_len z_list z_range (H1.mono (by decide)) (H8.mono (by decide)) (H9.mono (by decide)) (H2.mono (by decide)) (H6.mono (by decide)))
  have H11 : Has ⟨PySem.Challenge.pw_wishweather_k81_edits, w, K, mg, base, xi⟩ 4 F_law_world := by
    exact has_of rfl E_law_world D_law_world rfl rfl F11 b11 (PySem.W.mg_of X G a11) (P_law_world z_range (H3.mono (by decide)) (H4.mono (by decide)) (H7.mono (by decide)) (H10.mono (by decide)) (H1.mono (by decide)))
  have H12 : Has ⟨PySem.Challenge.pw_wishweather_k81_edits, w, K, mg, base, xi⟩ 5 F_law_small := by
    exact has_of rfl E_law_small D_law_small rfl rfl F12 b12 (PySem.W.mg_of X G a12) (P_law_small (H11.mono (by decide)) (H1.mono (by decide)))
  have H13 : Has ⟨PySem.Challenge.pw_wishweather_k81_edits, w, K, mg, base, xi⟩ 1 F_law_pool := by
    exact has_of rfl E_law_pool D_law_pool rfl rfl F13 b13 (PySem.W.mg_of X G a13) (P_law_pool )
  have H14 : Has ⟨PySem.Challenge.pw_wishweather_k81_edits, w, K, mg, base, xi⟩ 3 F_law_names := by
    exact has_of rfl E_law_names D_law_names rfl rfl F14 b14 (PySem.W.mg_of X G a14) (P_law_names z_len (H5.mono (by decide)) (H13.mono (by decide)))
  have H15 : Has ⟨PySem.Challenge.pw_wishweather_k81_edits, w, K, mg, base, xi⟩ 1 F_law_mask_text := by
    exact has_of rfl E_law_mask_text D_law_mask_text rfl rfl F15 b15 (PySem.W.mg_of X G a15) (P_law_mask_text z_range)
  have H16 : Has ⟨PySem.Challenge.pw_wishweather_k81_edits, w, K, mg, base, xi⟩ 2 F_law_switch_item := by
    exact has_of rfl E_law_switch_item D_law_switch_item rfl rfl F16 b16 (PySem.W.mg_of X G a16) (P_law_switch_item (H15.mono (by decide)))
  have H17 : Has ⟨PySem.Challenge.pw_wishweather_k81_edits, w, K, mg, base, xi⟩ 1 F_law_pattern := by
    exact has_of rfl E_law_pattern D_law_pattern rfl rfl F17 b17 (PySem.W.mg_of X G a17) (P_law_pattern z_range)
  have H18 : Has ⟨PySem.Challenge.pw_wishweather_k81_edits, w, K, mg, base, xi⟩ 1 F_law_bits := by
    exact has_of rfl E_law_bits D_law_bits rfl rfl F18 b18 (PySem.W.mg_of X G a18) (P_law_bits z_range)
  have H19 : Has ⟨PySem.Challenge.pw_wishweather_k81_edits, w, K, mg, base, xi⟩ 2 F_law_wish_item := by
    exact has_of rfl E_law_wish_item D_law_wish_item rfl rfl F19 b19 (PySem.W.mg_of X G a19) (P_law_wish_item z_tuple (H17.mono (by decide)) (H18.mono (by decide)))
  have H20 : Has ⟨PySem.Challenge.pw_wishweather_k81_edits, w, K, mg, base, xi⟩ 3 F_law_tree := by
    exact has_of rfl E_law_tree D_law_tree rfl rfl F20 b20 (PySem.W.mg_of X G a20) (P_law_tree z_tuple z_range z_len (H16.mono (by decide)) (H19.mono (by decide)))
  have H21 : Has ⟨PySem.Challenge.pw_wishweather_k81_edits, w, K, mg, base, xi⟩ 3 F_law_item := by
    exact has_of rfl E_law_item D_law_item rfl rfl F21 b21 (PySem.W.mg_of X G a21) (P_law_item (H2.mono (by decide)) (H1.mono (by decide)))
  have H22 : Has ⟨PySem.Challenge.pw_wishweather_k81_edits, w, K, mg, base, xi⟩ 4 F_law_edit := by
    exact has_of rfl E_law_edit D_law_edit rfl rfl F22 b22 (PySem.W.mg_of X G a22) (P_law_edit z_len (H1.mono (by decide)) (H2.mono (by decide)) (H21.mono (by decide)))
  have H23 : Has ⟨PySem.Challenge.pw_wishweather_k81_edits, w, K, mg, base, xi⟩ 1 F_law_due := by
    exact has_of rfl E_law_due D_law_due rfl rfl F23 b23 (PySem.W.mg_of X G a23) (P_law_due z_list z_tuple z_range z_len)
  have H24 : Has ⟨PySem.Challenge.pw_wishweather_k81_edits, w, K, mg, base, xi⟩ 1 F_with_part := by
    exact has_of rfl E_with_part D_with_part rfl rfl F24 b24 (PySem.W.mg_of X G a24) (P_with_part )
  have H25 : Has ⟨PySem.Challenge.pw_wishweather_k81_edits, w, K, mg, base, xi⟩ 1 F_drop_item := by
    exact has_of rfl E_drop_item D_drop_item rfl rfl F25 b25 (PySem.W.mg_of X G a25) (P_drop_item z_tuple z_len Xx0 Yx0)
  have H26 : Has ⟨PySem.Challenge.pw_wishweather_k81_edits, w, K, mg, base, xi⟩ 1 F_put_item := by
    exact has_of rfl E_put_item D_put_item rfl rfl F26 b26 (PySem.W.mg_of X G a26) (P_put_item z_tuple)
  have H27 : Has ⟨PySem.Challenge.pw_wishweather_k81_edits, w, K, mg, base, xi⟩ 2 F_edit_tree := by
    exact has_of rfl E_edit_tree D_edit_tree rfl rfl F27 b27 (PySem.W.mg_of X G a27) (P_edit_tree DD_PLACES (H24.mono (by decide)) (H25.mono (by decide)) (H26.mono (by decide)))
  exact home_ok (N := N_law) (b := b_law) (st := top 34) (xi := xj) (k := 5) F28 D_law (fun s v => .of_eq rfl) (P_law (Γ := ⟨PySem.Challenge.pw_wishweather_k81_edits, w, K, mg, base, xj⟩) z_range z_repr z_isinstance Xx0j Yx0j QQ_WishError QE_WishError rfl (has_gd (H0.mono (by decide))) (has_gd (H12.mono (by decide))) (has_gd (H14.mono (by decide))) (has_gd (H20.mono (by decide))) (has_gd (H22.mono (by decide))) (has_gd (H23.mono (by decide))) (has_gd (H1.mono (by decide))) (has_gd (H27.mono (by decide)))) ⟨rfl, by decide, by decide⟩ law_true
end K81
open PySem PySem.W PyProof.Rows
set_option maxRecDepth 100000 in
set_option maxHeartbeats 0 in
theorem PySem.Challenge.cw_wishweather_k81_edits_holds : PySem.Challenge.rw_wishweather_k81_edits.Holds := by
  w_on; o_law; k_head; (case hw => w_witness2)
  k_fill
  refine Pv.home_walk (l := PySem.Challenge.rw_wishweather_k81_edits) rfl rfl (fun w h Y => PySem.W.kIn_of Y) ?F
  case F =>
    intro w mg fa h KX G hmg
    refine' K81.all_mk KX G hmg ?a0 ?l0 ?c0 ?k0 ?a1 ?l1 ?c1 ?k1 ?a2 ?l2 ?c2 ?k2 ?a3 ?l3 ?c3 ?k3 ?a4 ?l4 ?c4 ?k4 ?a5 ?l5 ?c5 ?k5 ?a6 ?l6 ?c6 ?k6 ?a7 ?l7 ?c7 ?k7 ?a8 ?l8 ?c8 ?k8 ?a9 ?l9 ?c9 ?k9 ?a10 ?l10 ?c10 ?k10 ?a11 ?l11 ?c11 ?k11 ?a12 ?l12 ?c12 ?k12 ?a13 ?l13 ?c13 ?k13 ?a14 ?l14 ?c14 ?k14 ?a15 ?l15 ?c15 ?k15 ?a16 ?l16 ?c16 ?k16 ?a17 ?l17 ?c17 ?k17 ?a18 ?l18 ?c18 ?k18 ?a19 ?l19 ?c19 ?k19 ?a20 ?l20 ?c20 ?k20 ?a21 ?l21 ?c21 ?k21 ?a22 ?l22 ?c22 ?k22 ?a23 ?l23 ?c23 ?k23 ?a24 ?l24 ?c24 ?k24 ?a25 ?l25 ?c25 ?k25 ?a26 ?l26 ?c26 ?k26 ?a27 ?l27 ?c27 ?k27 ?a28 ?l28 ?c28 ?k28 ?z_list ?z_int ?z_len ?z_range ?z_tuple ?z_repr ?z_isinstance ?z_super ?z_dig ?d_PLACES ?e_PLACES ?f_PLACES ?i_PLACES_0 ?i_PLACES_1 ?i_PLACES_2 ?aCx0 ?xLx0 ?sax0 ?gax0 ?ggx0 ?nbx0 ?aix0 ?tix0 ?lix0 ?cix0 ?kCx0 ?eCx0 ?tCx0 ?hCx0 ?iCx0 ?sCx0 ?mCx0 ?sVx0 ?hmx0 ?lcx0 ?ldx0 ?vdx0 ?fdx0 ?aD_WishError ?iD_WishError ?tD_WishError ?sD_WishError_x0 ?hax0 ?hox0 ?hn_get ?ht_get ?opq
    (case a0 => k_is)
    (case l0 => k_is)
    (case c0 => k_is)
    (case k0 => k_is)
    (case a1 => k_is)
    (case l1 => k_is)
    (case c1 => k_is)
    (case k1 => k_is)
    (case a2 => k_is)
    (case l2 => k_is)
    (case c2 => k_is)
    (case k2 => k_is)
    (case a3 => k_is)
    (case l3 => k_is)
    (case c3 => k_is)
    (case k3 => k_is)
    (case a4 => k_is)
    (case l4 => k_is)
    (case c4 => k_is)
    (case k4 => k_is)
    (case a5 => k_is)
    (case l5 => k_is)
    (case c5 => k_is)
    (case k5 => k_is)
    (case a6 => k_is)
    (case l6 => k_is)
    (case c6 => k_is)
    (case k6 => k_is)
    (case a7 => k_is)
    (case l7 => k_is)
    (case c7 => k_is)
    (case k7 => k_is)
    (case a8 => k_is)
    (case l8 => k_is)
    (case c8 => k_is)
    (case k8 => k_is)
    (case a9 => k_is)
    (case l9 => k_is)
    (case c9 => k_is)
    (case k9 => k_is)
    (case a10 => k_is)
    (case l10 => k_is)
    (case c10 => k_is)
    (case k10 => k_is)
    (case a11 => k_is)
    (case l11 => k_is)
    (case c11 => k_is)
    (case k11 => k_is)
    (case a12 => k_is)
    (case l12 => k_is)
    (case c12 => k_is)
    (case k12 => k_is)
    (case a13 => k_is)
    (case l13 => k_is)
    (case c13 => k_is)
    (case k13 => k_is)
    (case a14 => k_is)
    (case l14 => k_is)
    (case c14 => k_is)
    (case k14 => k_is)
    (case a15 => k_is)
    (case l15 => k_is)
    (case c15 => k_is)
    (case k15 => k_is)
    (case a16 => k_is)
    (case l16 => k_is)
    (case c16 => k_is)
    (case k16 => k_is)
    (case a17 => k_is)
    (case l17 => k_is)
    (case c17 => k_is)
    (case k17 => k_is)
    (case a18 => k_is)
    (case l18 => k_is)
    (case c18 => k_is)
    (case k18 => k_is)
    (case a19 => k_is)
    (case l19 => k_is)
    (case c19 => k_is)
    (case k19 => k_is)
    (case a20 => k_is)
    (case l20 => k_is)
    (case c20 => k_is)
    (case k20 => k_is)
    (case a21 => k_is)
    (case l21 => k_is)
    (case c21 => k_is)
    (case k21 => k_is)
    (case a22 => k_is)
    (case l22 => k_is)
    (case c22 => k_is)
    (case k22 => k_is)
    (case a23 => k_is)
    (case l23 => k_is)
    (case c23 => k_is)
    (case k23 => k_is)
    (case a24 => k_is)
    (case l24 => k_is)
    (case c24 => k_is)
    (case k24 => k_is)
    (case a25 => k_is)
    (case l25 => k_is)
    (case c25 => k_is)
    (case k25 => k_is)
    (case a26 => k_is)
    (case l26 => k_is)
    (case c26 => k_is)
    (case k26 => k_is)
    (case a27 => k_is)
    (case l27 => k_is)
    (case c27 => k_is)
    (case k27 => k_is)
    (case a28 => k_is)
    (case l28 => k_is)
    (case c28 => k_is)
    (case k28 => k_is)
    (case z_list => k_is)
    (case z_int => k_is)
    (case z_len => k_is)
    (case z_range => k_is)
    (case z_tuple => k_is)
    (case z_repr => k_is)
    (case z_isinstance => k_is)
    (case z_super => k_is)
    (case z_dig => k_is)
    (case d_PLACES => k_is)
    (case e_PLACES => k_is)
    (case f_PLACES => repeat' (first | exact ⟨_, _, rfl, rfl⟩ | exact True.intro | refine And.intro ?_ ?_))
    (case i_PLACES_0 => k_is)
    (case i_PLACES_1 => k_is)
    (case i_PLACES_2 => k_is)
    (case aCx0 => k_is)
    (case xLx0 => k_is)
    (case sax0 => k_is)
    (case gax0 => k_is)
    (case ggx0 => k_is)
    (case nbx0 => k_is)
    (case aix0 => k_is)
    (case tix0 => k_is)
    (case lix0 => k_is)
    (case cix0 => k_is)
    (case kCx0 => k_is)
    (case eCx0 => k_is)
    (case tCx0 => k_is)
    (case hCx0 => k_is)
    (case iCx0 => k_is)
    (case sCx0 => first | rfl | k_is)
    (case mCx0 => first | rfl | k_is)
    (case sVx0 => k_is)
    (case hmx0 => first | ks_is | k_is)
    (case lcx0 => k_is)
    (case ldx0 => k_is)
    (case vdx0 => rfl)
    (case fdx0 => first | rfl | decide +kernel)
    (case aD_WishError => k_is)
    (case iD_WishError => k_is)
    (case tD_WishError => k_is)
    (case sD_WishError_x0 => first | rfl | k_is)
    (case hax0 => k_is)
    (case hox0 => first | rfl | k_is)
    (case hn_get => k_is)
    (case ht_get => k_is)
    (case opq => k_is)
