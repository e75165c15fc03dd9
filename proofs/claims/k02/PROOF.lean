import PyProof.Rows.All
import Wide.All
import OpenK.AllK
import Wide.FinOn
import HandS.ForMost
import HandS.Exc
import HandS.TryOnly
import HandS.ExcOwn
import HandS.WordsExc
import HandS.Wide
import HandS.Style
import HandS.Deep
import HandS.IsInst
import HandS.StrMore
import HandS.RaiseMore
import HandS.Head0
import HandS.Head1
import HandS.Head2
import HandS.HeadEnd
import HandS.HeadHook1
import HandS.HeadHook2
import HandS.FStr
import PyProof.StrLawsRepr
import KE.KStateDown
import Lean
import PySem.Challenge.RW_regattaroll_k02_nearest_tenths
set_option Elab.async false
set_option linter.all false
set_option maxRecDepth 100000
set_option maxHeartbeats 8000000
/-! RL, the core: pure data, how it lies in the heap. -/
namespace RL
open PySem PySem.Spec PyProof.Rows L2
abbrev Sl := L2.St

/-- pure data; the flag of a list, dict, object: it is owned (unique, may be changed) -/
inductive D where
  | non | bl (b : Bool) | int (i : Int) | str (x : Str)
  | tup (ds : List D)
  | lst (o : Bool) (ds : List D)
  | dct (o : Bool) (ks : List Key) (ds : List D)
  | obj (o : Bool) (c : Str) (ns : List Str) (ds : List D)
  | exn (c : Str) (ns : List Str) (ds : List D)
  /-- the script: a list that is locked -/
  | scr (ns : List Int)

mutual
def D.clean : D → Bool
  | .tup ds => cleanL ds
  | .lst o ds => !o && cleanL ds
  | .dct o _ ds => !o && cleanL ds
  | .obj o _ _ ds => !o && cleanL ds
  | _ => true
def cleanL : List D → Bool
  | [] => true
  | d :: ds => d.clean && cleanL ds
end
mutual
def D.frz : D → D
  | .tup ds => .tup (frzL ds)
  | .lst _ ds => .lst false (frzL ds)
  | .dct _ ks ds => .dct false ks (frzL ds)
  | .obj _ c ns ds => .obj false c ns (frzL ds)
  | d => d
def frzL : List D → List D
  | [] => []
  | d :: ds => d.frz :: frzL ds
end

/-- the ground's facts: the written part, the module's names -/
structure Gd where
  K : PySem.W.Frag
  mg : Str → Option Value

mutual
/-- the value v is d: what never changes any more stands in P, what is owned stands in H, at A -/
inductive Rel (G : Gd) (P H : Hp) : V → D → List Addr → Prop
  | non : Rel G P H .non .non []
  | bl (b : Bool) : Rel G P H (.bl b) (.bl b) []
  | int (i : Int) : Rel G P H (.int i) (.int i) []
  | str (x : Str) : Rel G P H (.str x) (.str x) []
  | tup {a : Addr} {xs : List V} {ds : List D} {A : List Addr} : SqT G.K P a xs → RelL G P H xs ds A → Rel G P H (.ref a) (.tup ds) A
  | scr {a : Addr} {ns : List Int} : SqL G.K P a (ns.map V.int) → Rel G P H (.ref a) (.scr ns) []
  | lstF {a : Addr} {xs : List V} {ds : List D} : P a = some (.lst xs) → RelL G P H xs ds [] → Rel G P H (.ref a) (.lst false ds) []
  | lstO {a : Addr} {xs : List V} {ds : List D} {A : List Addr} : H a = some (.lst xs) → RelL G P H xs ds A → Rel G P H (.ref a) (.lst true ds) (a :: A)
  | dctF {a : Addr} {ks : List Key} {vs : List V} {ds : List D} : P a = some (.dK (ks.zip vs)) → ks.length = vs.length → RelL G P H vs ds [] → Rel G P H (.ref a) (.dct false ks ds) []
  | dctO {a : Addr} {ks : List Key} {vs : List V} {ds : List D} {A : List Addr} : H a = some (.dK (ks.zip vs)) → ks.length = vs.length → RelL G P H vs ds A → Rel G P H (.ref a) (.dct true ks ds) (a :: A)
  | objF {a dx C : Addr} {c : Str} {ns : List Str} {vs : List V} {ds : List D} : G.mg c = some (.ref C) → P a = some (.ins C dx (ns.zip vs)) → ns.length = vs.length → RelL G P H vs ds [] → Rel G P H (.ref a) (.obj false c ns ds) []
  | objO {a dx C : Addr} {c : Str} {ns : List Str} {vs : List V} {ds : List D} {A : List Addr} : G.mg c = some (.ref C) → H a = some (.ins C dx (ns.zip vs)) → ns.length = vs.length → RelL G P H vs ds A → Rel G P H (.ref a) (.obj true c ns ds) (a :: A)
inductive RelL (G : Gd) (P H : Hp) : List V → List D → List Addr → Prop
  | nil : RelL G P H [] [] []
  | cons {v : V} {d : D} {A : List Addr} {vs : List V} {ds : List D} {B : List Addr} : Rel G P H v d A → RelL G P H vs ds B → RelL G P H (v :: vs) (d :: ds) (A ++ B)
end

theorem Same.sqT {K : PySem.W.Frag} {H H' : Hp} {a : Addr} {xs : List V} (e : Same H H') (h : SqT K H a xs) : SqT K H' a xs := by
  rcases h with (h | ⟨o, h⟩) | h
  · exact .inl (.inl (e _ _ h))
  · exact .inl (.inr ⟨o, e _ _ h⟩)
  · exact .inr h

section
variable {G : Gd} {P P' H H' : Hp}
mutual
theorem Rel.mono (s : Same P P') : ∀ {v : V} {d : D} {A : List Addr}, (∀ b ∈ A, H' b = H b) → Rel G P H v d A → Rel G P' H' v d A
  | _, _, _, _, .non => .non
  | _, _, _, _, .bl b => .bl b
  | _, _, _, _, .int i => .int i
  | _, _, _, _, .str x => .str x
  | _, _, _, h, .tup q r => .tup (Same.sqT s q) (RelL.mono s h r)
  | _, _, _, h, .scr q => .scr (Same.seq s q)
  | _, _, _, h, .lstF q r => .lstF (s _ _ q) (RelL.mono s (by simp) r)
  | _, _, _, h, .lstO q r => .lstO (by rw [h _ List.mem_cons_self]; exact q) (RelL.mono s (fun b hb => h b (List.mem_cons_of_mem _ hb)) r)
  | _, _, _, h, .dctF q l r => .dctF (s _ _ q) l (RelL.mono s (by simp) r)
  | _, _, _, h, .dctO q l r => .dctO (by rw [h _ List.mem_cons_self]; exact q) l (RelL.mono s (fun b hb => h b (List.mem_cons_of_mem _ hb)) r)
  | _, _, _, h, .objF c q l r => .objF c (s _ _ q) l (RelL.mono s (by simp) r)
  | _, _, _, h, .objO c q l r => .objO c (by rw [h _ List.mem_cons_self]; exact q) l (RelL.mono s (fun b hb => h b (List.mem_cons_of_mem _ hb)) r)
theorem RelL.mono (s : Same P P') : ∀ {vs : List V} {ds : List D} {A : List Addr}, (∀ b ∈ A, H' b = H b) → RelL G P H vs ds A → RelL G P' H' vs ds A
  | _, _, _, _, .nil => .nil
  | _, _, _, h, .cons r t => .cons (Rel.mono s (fun b hb => h b (List.mem_append_left _ hb)) r) (RelL.mono s (fun b hb => h b (List.mem_append_right _ hb)) t)
end

mutual
/-- what is owned stands in H -/
theorem Rel.at : ∀ {v : V} {d : D} {A : List Addr}, Rel G P H v d A → ∀ b ∈ A, ∃ o, H b = some o
  | _, _, _, .tup _ r, b, hb => RelL.at r b hb
  | _, _, _, .lstO q r, b, hb => (List.mem_cons.mp hb).elim (fun e => e ▸ ⟨_, q⟩) (RelL.at r b)
  | _, _, _, .dctO q _ r, b, hb => (List.mem_cons.mp hb).elim (fun e => e ▸ ⟨_, q⟩) (RelL.at r b)
  | _, _, _, .objO _ q _ r, b, hb => (List.mem_cons.mp hb).elim (fun e => e ▸ ⟨_, q⟩) (RelL.at r b)
  | _, _, _, .non, b, hb => by simp at hb
  | _, _, _, .bl _, b, hb => by simp at hb
  | _, _, _, .int _, b, hb => by simp at hb
  | _, _, _, .str _, b, hb => by simp at hb
  | _, _, _, .lstF _ _, b, hb => by simp at hb
  | _, _, _, .scr _, b, hb => by simp at hb
  | _, _, _, .dctF _ _ _, b, hb => by simp at hb
  | _, _, _, .objF _ _ _ _, b, hb => by simp at hb
theorem RelL.at : ∀ {vs : List V} {ds : List D} {A : List Addr}, RelL G P H vs ds A → ∀ b ∈ A, ∃ o, H b = some o
  | _, _, _, .nil, b, hb => by simp at hb
  | _, _, _, .cons r t, b, hb => (List.mem_append.mp hb).elim (Rel.at r b) (RelL.at t b)
end

mutual
/-- nothing owned: no address -/
theorem Rel.clean : ∀ {v : V} {d : D} {A : List Addr}, Rel G P H v d A → d.clean = true → A = []
  | _, _, _, .tup _ r, c => RelL.clean r (by simpa [D.clean] using c)
  | _, _, _, .lstO _ _, c => by simp [D.clean] at c
  | _, _, _, .dctO _ _ _, c => by simp [D.clean] at c
  | _, _, _, .objO _ _ _ _, c => by simp [D.clean] at c
  | _, _, _, .non, c => rfl
  | _, _, _, .bl _, c => rfl
  | _, _, _, .int _, c => rfl
  | _, _, _, .str _, c => rfl
  | _, _, _, .lstF _ _, c => rfl
  | _, _, _, .scr _, c => rfl
  | _, _, _, .dctF _ _ _, c => rfl
  | _, _, _, .objF _ _ _ _, c => rfl
theorem RelL.clean : ∀ {vs : List V} {ds : List D} {A : List Addr}, RelL G P H vs ds A → cleanL ds = true → A = []
  | _, _, _, .nil, c => rfl
  | _, _, _, .cons r t, c => by
    simp only [cleanL, Bool.and_eq_true] at c
    rw [Rel.clean r c.1, RelL.clean t c.2]
    rfl
end
theorem RelL.length : ∀ {vs : List V} {ds : List D} {A : List Addr}, RelL G P H vs ds A → vs.length = ds.length
  | _, _, _, .nil => rfl
  | _, _, _, .cons _ t => congrArg (· + 1) (RelL.length t)
theorem RelL.get : ∀ {vs : List V} {ds : List D} {A : List Addr} {i : Nat} {d : D}, RelL G P H vs ds A → ds[i]? = some d → ∃ v B, vs[i]? = some v ∧ Rel G P H v d B ∧ (∀ b ∈ B, b ∈ A)
  | _, _, _, _, _, .nil, e => by simp at e
  | _, _, _, 0, _, .cons r t, e => by simp at e; subst e; exact ⟨_, _, rfl, r, fun b hb => List.mem_append_left _ hb⟩
  | _, _, _, i + 1, _, .cons r t, e => by
    obtain ⟨v, B, h1, h2, h3⟩ := RelL.get (i := i) t (by simpa using e)
    exact ⟨v, B, by simpa using h1, h2, fun b hb => List.mem_append_right _ (h3 b hb)⟩
end

/-- P is known of H: all as it is, but a dict may be locked -/
def Under (P H : Hp) : Prop := ∀ a u, P a = some u → H a = some u ∨ ∃ o kvs, u = .dK kvs ∧ H a = some (.frz o u)
/-- from (P, H) to (P', H'), where what stands at A may have changed, or is given up -/
structure Ext (P H P' H' : Hp) (A : List Addr) : Prop where
  same : Same P P'
  und : Under P' H'
  keep : ∀ b o, H b = some o → P b = none → b ∉ A → H' b = some o
  new : ∀ b o, P' b = some o → P b = some o ∨ H b = none ∨ b ∈ A
theorem Under.seqL {K : PySem.W.Frag} {P H : Hp} {a : Addr} {xs : List V} (u : Under P H) (h : SqL K P a xs) : SqL K H a xs := by
  rcases h with (h | ⟨o, h⟩) | h
  · rcases u _ _ h with q | ⟨_, _, e, _⟩
    · exact .inl (.inl q)
    · cases e
  · rcases u _ _ h with q | ⟨_, _, e, _⟩
    · exact .inl (.inr ⟨o, q⟩)
    · cases e
  · exact .inr h
theorem Under.seqT {K : PySem.W.Frag} {P H : Hp} {a : Addr} {xs : List V} (u : Under P H) (h : SqT K P a xs) : SqT K H a xs := by
  rcases h with (h | ⟨o, h⟩) | h
  · rcases u _ _ h with q | ⟨_, _, e, _⟩
    · exact .inl (.inl q)
    · cases e
  · rcases u _ _ h with q | ⟨_, _, e, _⟩
    · exact .inl (.inr ⟨o, q⟩)
    · cases e
  · exact .inr h
theorem Ext.refl {P H : Hp} {A : List Addr} (u : Under P H) : Ext P H P H A := ⟨Same.refl P, u, fun _ _ h _ _ => h, fun _ _ h => .inl h⟩
/-- what was tracked is tracked -/
theorem Ext.there {P H P' H' : Hp} (e : Ext P H P' H' []) (u : Under P H) {b : Addr} {o : HO} (h : H b = some o) : ∃ o', H' b = some o' := by
  cases q : P b with
  | none => exact ⟨o, e.keep b o h q (by simp)⟩
  | some w =>
    rcases e.und _ _ (e.same _ _ q) with r | ⟨_, _, _, r⟩
    · exact ⟨_, r⟩
    · exact ⟨_, r⟩
theorem Ext.free {P H P' H' : Hp} (e : Ext P H P' H' []) (u : Under P H) {b : Addr} (h : H' b = none) : H b = none := by
  cases q : H b with
  | none => rfl
  | some o =>
    obtain ⟨o', r⟩ := e.there u q
    rw [h] at r; cases r
theorem Ext.trans {P H P1 H1 P2 H2 : Hp} (u : Under P H) (a : Ext P H P1 H1 []) (b : Ext P1 H1 P2 H2 []) : Ext P H P2 H2 [] where
  same := a.same.trans b.same
  und := b.und
  keep := fun c o h n hc => by
    refine b.keep c o (a.keep c o h n hc) ?_ hc
    cases q : P1 c with
    | none => rfl
    | some w =>
      rcases a.new c w q with z | z | z
      · rw [n] at z; cases z
      · rw [h] at z; cases z
      · simp at z
  new := fun c o h => by
    rcases b.new c o h with z | z | z
    · exact a.new c o z
    · exact .inr (.inl (a.free u z))
    · simp at z
/-- owned things stay so -/
theorem Ext.own {P H P' H' : Hp} {A : List Addr} (e : Ext P H P' H' []) (ha : ∀ b ∈ A, ∃ o, H b = some o) (hp : ∀ b ∈ A, P b = none) : (∀ b ∈ A, H' b = H b) ∧ ∀ b ∈ A, P' b = none := by
  refine ⟨fun b hb => ?_, fun b hb => ?_⟩
  · obtain ⟨o, q⟩ := ha b hb
    rw [q, e.keep b o q (hp b hb) (by simp)]
  · cases q : P' b with
    | none => rfl
    | some w =>
      obtain ⟨o, r⟩ := ha b hb
      rcases e.new b w q with z | z | z
      · rw [hp b hb] at z; cases z
      · rw [r] at z; cases z
      · simp at z
section
variable {G : Gd} {P P' H H' : Hp}
theorem Rel.ext {v : V} {d : D} {A : List Addr} (r : Rel G P H v d A) (e : Ext P H P' H' []) (hp : ∀ b ∈ A, P b = none) : Rel G P' H' v d A := r.mono e.same (e.own r.at hp).1
theorem RelL.ext {v : List V} {d : List D} {A : List Addr} (r : RelL G P H v d A) (e : Ext P H P' H' []) (hp : ∀ b ∈ A, P b = none) : RelL G P' H' v d A := r.mono e.same (e.own r.at hp).1

/-! ### giving up: what is owned never changes any more -/
/-- P with what H has at A -/
def give (P H : Hp) (A : List Addr) : Hp := fun b => if b ∈ A then H b else P b
theorem give_in {A : List Addr} {b : Addr} (h : b ∈ A) : give P H A b = H b := if_pos h
theorem give_out {A : List Addr} {b : Addr} (h : b ∉ A) : give P H A b = P b := if_neg h
theorem give_same {A : List Addr} (hp : ∀ b ∈ A, P b = none) : Same P (give P H A) := fun b o h => by
  by_cases hb : b ∈ A
  · rw [hp b hb] at h; cases h
  · rw [give_out hb]; exact h
theorem give_und {A : List Addr} (u : Under P H) : Under (give P H A) H := fun b o h => by
  by_cases hb : b ∈ A
  · rw [give_in hb] at h; exact .inl h
  · rw [give_out hb] at h; exact u b o h
theorem give_ext {A : List Addr} (u : Under P H) (hp : ∀ b ∈ A, P b = none) : Ext P H (give P H A) H A where
  same := give_same hp
  und := give_und u
  keep := fun _ _ h _ _ => h
  new := fun b o h => by
    by_cases hb : b ∈ A
    · exact .inr (.inr hb)
    · rw [give_out hb] at h; exact .inl h
mutual
theorem Rel.frz (s : Same P P') : ∀ {v : V} {d : D} {A : List Addr}, (∀ b ∈ A, P' b = H b) → Rel G P H v d A → Rel G P' H' v d.frz []
  | _, _, _, _, .non => .non
  | _, _, _, _, .bl b => .bl b
  | _, _, _, _, .int i => .int i
  | _, _, _, _, .str x => .str x
  | _, _, _, h, .tup q r => .tup (Same.sqT s q) (RelL.frz s h r)
  | _, _, _, h, .scr q => .scr (Same.seq s q)
  | _, _, _, h, .lstF q r => .lstF (s _ _ q) (RelL.frz s (by simp) r)
  | _, _, _, h, .lstO q r => .lstF (by rw [h _ List.mem_cons_self]; exact q) (RelL.frz s (fun b hb => h b (List.mem_cons_of_mem _ hb)) r)
  | _, _, _, h, .dctF q l r => .dctF (s _ _ q) l (RelL.frz s (by simp) r)
  | _, _, _, h, .dctO q l r => .dctF (by rw [h _ List.mem_cons_self]; exact q) l (RelL.frz s (fun b hb => h b (List.mem_cons_of_mem _ hb)) r)
  | _, _, _, h, .objF c q l r => .objF c (s _ _ q) l (RelL.frz s (by simp) r)
  | _, _, _, h, .objO c q l r => .objF c (by rw [h _ List.mem_cons_self]; exact q) l (RelL.frz s (fun b hb => h b (List.mem_cons_of_mem _ hb)) r)
theorem RelL.frz (s : Same P P') : ∀ {vs : List V} {ds : List D} {A : List Addr}, (∀ b ∈ A, P' b = H b) → RelL G P H vs ds A → RelL G P' H' vs (frzL ds) []
  | _, _, _, _, .nil => .nil
  | _, _, _, h, .cons r t => .cons (A := []) (B := []) (Rel.frz s (fun b hb => h b (List.mem_append_left _ hb)) r) (RelL.frz s (fun b hb => h b (List.mem_append_right _ hb)) t)
end
end

/-! ### a def's names -/
abbrev Env := List (Option D)
/-- the names' values -/
inductive EnvRel (G : Gd) (P H : Hp) : Sl → Env → List Addr → Prop
  | nil : EnvRel G P H [] [] []
  | no {s : Option V} {σ : Sl} {ρ : Env} {A : List Addr} : EnvRel G P H σ ρ A → EnvRel G P H (s :: σ) (none :: ρ) A
  | val {v : V} {d : D} {σ : Sl} {ρ : Env} {A B : List Addr} : Rel G P H v d A → EnvRel G P H σ ρ B → EnvRel G P H (some v :: σ) (some d :: ρ) (A ++ B)
section
variable {G : Gd} {P P' H H' : Hp}
theorem EnvRel.mono (s : Same P P') : ∀ {σ : Sl} {ρ : Env} {A : List Addr}, (∀ b ∈ A, H' b = H b) → EnvRel G P H σ ρ A → EnvRel G P' H' σ ρ A
  | _, _, _, _, .nil => .nil
  | _, _, _, h, .no t => .no (t.mono s h)
  | _, _, _, h, .val r t => .val (r.mono s fun b hb => h b (List.mem_append_left _ hb)) (t.mono s fun b hb => h b (List.mem_append_right _ hb))
theorem EnvRel.at : ∀ {σ : Sl} {ρ : Env} {A : List Addr}, EnvRel G P H σ ρ A → ∀ b ∈ A, ∃ o, H b = some o
  | _, _, _, .nil, b, hb => by simp at hb
  | _, _, _, .no t, b, hb => t.at b hb
  | _, _, _, .val r t, b, hb => (List.mem_append.mp hb).elim (r.at b) (t.at b)
theorem EnvRel.ext {σ : Sl} {ρ : Env} {A : List Addr} (r : EnvRel G P H σ ρ A) (e : Ext P H P' H' []) (hp : ∀ b ∈ A, P b = none) : EnvRel G P' H' σ ρ A := r.mono e.same (e.own r.at hp).1
theorem EnvRel.length : ∀ {σ : Sl} {ρ : Env} {A : List Addr}, EnvRel G P H σ ρ A → σ.length = ρ.length
  | _, _, _, .nil => rfl
  | _, _, _, .no t => congrArg (· + 1) t.length
  | _, _, _, .val _ t => congrArg (· + 1) t.length
theorem EnvRel.get : ∀ {σ : Sl} {ρ : Env} {A : List Addr} {i : Nat} {d : D}, EnvRel G P H σ ρ A → ρ[i]? = some (some d) → ∃ v B, σ[i]? = some (some v) ∧ Rel G P H v d B ∧ ∀ b ∈ B, b ∈ A
  | _, _, _, _, _, .nil, e => by simp at e
  | _, _, _, 0, _, .no t, e => by simp at e
  | _, _, _, 0, _, .val r t, e => by simp at e; subst e; exact ⟨_, _, rfl, r, fun b hb => List.mem_append_left _ hb⟩
  | _, _, _, i + 1, _, .no t, e => by
    obtain ⟨v, B, h1, h2, h3⟩ := t.get (i := i) (by simpa using e)
    exact ⟨v, B, by simpa using h1, h2, h3⟩
  | _, _, _, i + 1, _, .val r t, e => by
    obtain ⟨v, B, h1, h2, h3⟩ := t.get (i := i) (by simpa using e)
    exact ⟨v, B, by simpa using h1, h2, fun b hb => List.mem_append_right _ (h3 b hb)⟩
/-- a name's value taken out: what it owns, what the others own -/
theorem EnvRel.out : ∀ {σ : Sl} {ρ : Env} {A : List Addr} {i : Nat}, EnvRel G P H σ ρ A → i < ρ.length → ∃ B C, (A.Perm (B ++ C)) ∧ EnvRel G P H σ (ρ.set i none) C ∧
    ((∃ d v, ρ[i]? = some (some d) ∧ σ[i]? = some (some v) ∧ Rel G P H v d B) ∨ (ρ[i]? = some none ∧ B = []))
  | _, _, _, i, .nil, h => by simp at h
  | _, _, _, 0, .no t, h => ⟨[], _, .refl _, .no t, .inr ⟨rfl, rfl⟩⟩
  | _, _, _, 0, .val r t, h => ⟨_, _, .refl _, .no t, .inl ⟨_, _, rfl, rfl, r⟩⟩
  | _, _, _, i + 1, .no t, h => by
    obtain ⟨B, C, p, e, q⟩ := t.out (i := i) (by simpa using h)
    exact ⟨B, C, p, .no e, by simpa using q⟩
  | _, _, _, i + 1, .val (A := A1) (B := B1) r t, h => by
    obtain ⟨B, C, p, e, q⟩ := t.out (i := i) (by simpa using h)
    refine ⟨B, A1 ++ C, ?_, .val r e, by simpa using q⟩
    refine (p.append_left A1).trans ?_
    rw [← List.append_assoc, ← List.append_assoc]
    exact List.Perm.append_right C List.perm_append_comm
/-- .. and put in -/
theorem EnvRel.put {v : V} {d : D} {B : List Addr} (r : Rel G P H v d B) : ∀ {σ : Sl} {ρ : Env} {C : List Addr} {i : Nat}, EnvRel G P H σ ρ C → i < ρ.length → ρ[i]? = some none → ∃ A, A.Perm (B ++ C) ∧ EnvRel G P H (σ.set i (some v)) (ρ.set i (some d)) A
  | _, _, _, i, .nil, h, _ => by simp at h
  | _, _, _, 0, .no t, h, _ => ⟨_, .refl _, .val r t⟩
  | _, _, _, 0, .val _ t, h, e => by simp at e
  | _, _, _, i + 1, .no t, h, e => by
    obtain ⟨A, p, q⟩ := t.put (i := i) r (by simpa using h) (by simpa using e)
    exact ⟨A, p, .no q⟩
  | _, _, _, i + 1, .val (A := A1) r1 t, h, e => by
    obtain ⟨A, p, q⟩ := t.put (i := i) r (by simpa using h) (by simpa using e)
    refine ⟨A1 ++ A, ?_, .val r1 q⟩
    refine (p.append_left A1).trans ?_
    rw [← List.append_assoc, ← List.append_assoc]
    exact List.Perm.append_right _ List.perm_append_comm
theorem EnvRel.set_same : ∀ {σ : Sl} {i : Nat} {v : V}, σ[i]? = some (some v) → σ.set i (some v) = σ
  | [], _, _, h => by simp at h
  | s :: σ, 0, v, h => by simp at h; subst h; rfl
  | s :: σ, i + 1, v, h => by
    show s :: σ.set i (some v) = s :: σ
    rw [EnvRel.set_same (by simpa using h)]
/-- some slots forgotten -/
theorem EnvRel.drop : ∀ {σ : Sl} {ρ : Env} {A : List Addr} {i : Nat}, EnvRel G P H σ ρ A → ∃ C, (∀ b ∈ C, b ∈ A) ∧ (A.Nodup → C.Nodup) ∧ EnvRel G P H σ (ρ.set i none) C := fun {σ ρ A i} e => by
  by_cases h : i < ρ.length
  · obtain ⟨B, C, p, q, _⟩ := e.out h
    exact ⟨C, fun b hb => p.symm.subset (List.mem_append_right _ hb), fun n => ((p.nodup_iff.mp n).sublist (List.sublist_append_right _ _)), q⟩
  · refine ⟨A, fun _ h => h, fun n => n, ?_⟩
    rw [List.set_eq_of_length_le (by omega)]
    exact e
/-- a slot of σ that ρ does not speak of -/
theorem EnvRel.anyAt {s : Option V} : ∀ {σ : Sl} {ρ : Env} {A : List Addr} {i : Nat}, EnvRel G P H σ ρ A → ρ[i]? = some none → EnvRel G P H (σ.set i s) ρ A
  | _, _, _, i, .nil, h => by simp at h
  | _, _, _, 0, .no t, _ => .no t
  | _, _, _, 0, .val _ _, h => by simp at h
  | _, _, _, i + 1, .no t, h => .no (t.anyAt (by simpa using h))
  | _, _, _, i + 1, .val r t, h => .val r (t.anyAt (by simpa using h))
end

/-- the state: what is known of the names, nothing owned twice -/
structure StRel (G : Gd) (P H : Hp) (σ : Sl) (ρ : Env) (A : List Addr) : Prop where
  und : Under P H
  env : EnvRel G P H σ ρ A
  nd : A.Nodup
  off : ∀ b ∈ A, P b = none
theorem StRel.ext {G : Gd} {P H P' H' : Hp} {σ : Sl} {ρ : Env} {A : List Addr} (s : StRel G P H σ ρ A) (e : Ext P H P' H' []) : StRel G P' H' σ ρ A :=
  ⟨e.und, s.env.ext e s.off, s.nd, (e.own s.env.at s.off).2⟩
end RL

/-! RL, expressions: what an expression means, and that the text does it. -/
namespace RL
open PySem PySem.Spec PyProof.Rows L2

abbrev gd (X : Cx) : Gd := ⟨X.K, X.mg⟩
inductive Res (α : Type) where
  | ok (a : α) | exc (x : D) | bad
def Res.bind {α β : Type} (r : Res α) (f : α → Res β) : Res β := match r with
  | .ok a => f a
  | .exc x => .exc x
  | .bad => .bad
def opt {α : Type} : Option α → Res α
  | some a => .ok a
  | none => .bad
/-- an exception of a class of the module's -/
def XRel (G : Gd) (P : Hp) (cls : Value) (dx : Option Addr) (x : D) : Prop := ∃ c ns ds C, x = .exn c ns ds ∧ G.mg c = some (.ref C) ∧ cls = .ref C ∧
  ((ns = [] ∧ ds = [] ∧ dx = none) ∨ ∃ d vs, dx = some d ∧ P d = some (.xd (ns.zip vs)) ∧ ns.length = vs.length ∧ RelL G P P vs ds [])
def Fresh (P' H : Hp) (B : List Addr) : Prop := B.Nodup ∧ ∀ b ∈ B, H b = none ∧ P' b = none
theorem Fresh.nil {P' H : Hp} : Fresh P' H [] := ⟨List.nodup_nil, fun b h => by simp at h⟩
def Post (G : Gd) (P H : Hp) (Q : VK) (d : D) : Prop := ∀ v P' H' B, Ext P H P' H' [] → Rel G P' H' v d B → Fresh P' H B → Q v H'
def PostB (G : Gd) (P H : Hp) (Q : VK) (d : D) : Prop := ∀ v P' H' B, Ext P H P' H' [] → Rel G P' H' v d B → (∀ b ∈ B, P' b = none) → Q v H'
def PostX (G : Gd) (P H : Hp) (W : WX) (σ : Sl) (x : D) : Prop := ∀ cls dx P' H', Ext P H P' H' [] → XRel G P' cls dx x → W cls dx σ H'
/-- the reading of an expression with the meaning S -/
def tE (G : Gd) (W : WX) (S : Env → Res D) : TE := fun σ H Q => ∃ P ρ A, StRel G P H σ ρ A ∧ match S ρ with
  | .ok d => Post G P H Q d
  | .exc x => PostX G P H W σ x
  | .bad => False
/-- .. whose value may be owned by a name -/
def tBo (G : Gd) (W : WX) (S : Env → Res D) : TE := fun σ H Q => ∃ P ρ A, StRel G P H σ ρ A ∧ match S ρ with
  | .ok d => PostB G P H Q d
  | .exc x => PostX G P H W σ x
  | .bad => False
/-- .. of a test -/
def tT (G : Gd) (W : WX) (S : Env → Res Bool) : TT := fun σ H Q => ∃ P ρ A, StRel G P H σ ρ A ∧ match S ρ with
  | .ok b => ∀ P' H', Ext P H P' H' [] → Q b H'
  | .exc x => PostX G P H W σ x
  | .bad => False
def PostL (G : Gd) (P H : Hp) (Q : List V → Hp → Prop) (ds : List D) : Prop := ∀ vs P' H' B, Ext P H P' H' [] → RelL G P' H' vs ds B → Fresh P' H B → Q vs H'
def PostLB (G : Gd) (P H : Hp) (Q : List V → Hp → Prop) (ds : List D) : Prop := ∀ vs P' H' B, Ext P H P' H' [] → RelL G P' H' vs ds B → (∀ b ∈ B, P' b = none) → Q vs H'
/-- .. of arguments -/
def tL (G : Gd) (W : WX) (S : Env → Res (List D)) : TA := fun σ H Q => ∃ P ρ A, StRel G P H σ ρ A ∧ match S ρ with
  | .ok ds => PostL G P H Q ds
  | .exc x => PostX G P H W σ x
  | .bad => False
def tLB (G : Gd) (W : WX) (S : Env → Res (List D)) : TA := fun σ H Q => ∃ P ρ A, StRel G P H σ ρ A ∧ match S ρ with
  | .ok ds => PostLB G P H Q ds
  | .exc x => PostX G P H W σ x
  | .bad => False
structure EOk (X : Cx) (W : WX) (e : Expr) (S : Env → Res D) : Prop where pe : PE X e (tE (gd X) W S)
structure BOk (X : Cx) (W : WX) (e : Expr) (S : Env → Res D) : Prop where pe : PE X e (tBo (gd X) W S)
structure TOk (X : Cx) (W : WX) (e : Expr) (S : Env → Res Bool) : Prop where pt : PT X e (tT (gd X) W S)
structure AOk (X : Cx) (W : WX) (es : List Expr) (S : Env → Res (List D)) : Prop where pa : PA X es (tL (gd X) W S)
structure ABOk (X : Cx) (W : WX) (es : List Expr) (S : Env → Res (List D)) : Prop where pa : PA X es (tLB (gd X) W S)

theorem PE.imp {X : Cx} {e : Expr} {t t' : TE} (h : PE X e t) (f : ∀ σ H Q, t' σ H Q → t σ H Q) : PE X e t' := ⟨fun pins s σ H Q I q => h.run pins s σ H Q I (f σ H Q q)⟩
theorem PT.imp {X : Cx} {e : Expr} {t t' : TT} (h : PT X e t) (f : ∀ σ H Q, t' σ H Q → t σ H Q) : PT X e t' := ⟨fun pins s σ H Q I q => h.run pins s σ H Q I (f σ H Q q)⟩
theorem PA.imp {X : Cx} {e : List Expr} {t t' : TA} (h : PA X e t) (f : ∀ σ H Q, t' σ H Q → t σ H Q) : PA X e t' := ⟨fun pos pins s σ H Q I q => h.run pos pins s σ H Q I (f σ H Q q)⟩
theorem PS.imp {X : Cx} {e : Stmt} {t t' : TS} (h : PS X e t) (f : ∀ D σ H, t' D σ H → t D σ H) : PS X e t' := ⟨fun pins s σ H D I q => h.run pins s σ H D I (f D σ H q)⟩
theorem PSs.imp {X : Cx} {e : List Stmt} {t t' : TS} (h : PSs X e t) (f : ∀ D σ H, t' D σ H → t D σ H) : PSs X e t' := ⟨fun pins s σ H D I q => h.run pins s σ H D I (f D σ H q)⟩
theorem PE.or {X : Cx} {e : Expr} {t t' : TE} (h : PE X e t) (h' : PE X e t') : PE X e (fun σ H Q => t σ H Q ∨ t' σ H Q) := ⟨fun pins s σ H Q I q => q.elim (h.run pins s σ H Q I) (h'.run pins s σ H Q I)⟩

section
variable {G : Gd} {P P1 H H1 : Hp} {W : WX} {σ : Sl}
theorem Post.ext {Q : VK} {d : D} (h : Post G P H Q d) (u : Under P H) (e : Ext P H P1 H1 []) : Post G P1 H1 Q d := fun v P' H' B e' r f => h v P' H' B (e.trans u e') r ⟨f.1, fun b hb => ⟨e.free u (f.2 b hb).1, (f.2 b hb).2⟩⟩
theorem PostB.ext {Q : VK} {d : D} (h : PostB G P H Q d) (u : Under P H) (e : Ext P H P1 H1 []) : PostB G P1 H1 Q d := fun v P' H' B e' r f => h v P' H' B (e.trans u e') r f
theorem PostB.post {Q : VK} {d : D} (h : PostB G P H Q d) : Post G P H Q d := fun v P' H' B e r f => h v P' H' B e r fun b hb => (f.2 b hb).2
theorem PostX.ext {x : D} (h : PostX G P H W σ x) (u : Under P H) (e : Ext P H P1 H1 []) : PostX G P1 H1 W σ x := fun cls dx P' H' e' r => h cls dx P' H' (e.trans u e') r
end

section
variable {X : Cx} {W : WX} {e a b : Expr} {pos : Pos} {Sa Sb : Env → Res D}
theorem EOk.bo (h : EOk X W e Sa) : BOk X W e Sa := ⟨PE.imp h.pe fun σ H Q ⟨P, ρ, A, st, q⟩ => ⟨P, ρ, A, st, by
  cases hs : Sa ρ with
  | ok d => rw [hs] at q; exact PostB.post q
  | exc x => rw [hs] at q; exact q
  | bad => rw [hs] at q; exact q⟩⟩
/-- nothing owned in it: a value of its own -/
def sCl (S : Env → Res D) : Env → Res D := fun ρ => (S ρ).bind fun d => if d.clean = true then .ok d else .bad
theorem BOk.eo (h : BOk X W e Sa) : EOk X W e (sCl Sa) := ⟨PE.imp h.pe fun σ H Q ⟨P, ρ, A, st, q⟩ => ⟨P, ρ, A, st, by
  unfold sCl at q
  cases hs : Sa ρ with
  | ok d =>
    simp only [hs, Res.bind] at q
    by_cases hc : d.clean = true
    · rw [if_pos hc] at q
      exact fun v P' H' B e r f => q v P' H' B e r (by rw [r.clean hc]; exact Fresh.nil)
    · rw [if_neg hc] at q; exact q.elim
  | exc x => simp only [hs, Res.bind] at q; exact q
  | bad => simp only [hs, Res.bind] at q⟩⟩
theorem EOk.to {S S' : Env → Res D} (h : EOk X W e S) (q : S = S') : EOk X W e S' := q ▸ h

/-! ### names, constants -/
def sVarB (i : Nat) : Env → Res D := fun ρ => match ρ[i]? with
  | some (some d) => .ok d
  | _ => .bad
def sVar (i : Nat) : Env → Res D := sCl (sVarB i)
theorem b_var (i : Nat) {x : Str} {p : Pos} (hN : X.N[i]? = some x := by rfl) (hv : Vis X.env.scope x := by first | exact Or.inl rfl | exact Or.inr (Or.inl rfl) | exact Or.inr (Or.inr rfl)) (hd : (x == ("__debug__" : Str)) = false := by decide)
    (hcd : (x == ("__classdict__" : Str)) = false := by decide) : BOk X W (.Name x p) (sVarB i) := ⟨PE.imp (pe_var hN hv hd hcd) fun σ H Q ⟨P, ρ, A, st, q⟩ => by
  unfold sVarB at q
  split at q
  · rename_i d hs
    split at hs
    · cases hs
      rename_i d' hd'
      obtain ⟨v, B, h1, h2, h3⟩ := st.env.get hd'
      exact ⟨v, h1, q v P H B (Ext.refl st.und) h2 fun b hb => st.off b (h3 b hb)⟩
    · cases hs
  · rename_i hs
    split at hs <;> cases hs
  · exact q.elim⟩
theorem e_var (i : Nat) {x : Str} {p : Pos} (hN : X.N[i]? = some x := by rfl) (hv : Vis X.env.scope x := by first | exact Or.inl rfl | exact Or.inr (Or.inl rfl) | exact Or.inr (Or.inr rfl)) (hd : (x == ("__debug__" : Str)) = false := by decide)
    (hcd : (x == ("__classdict__" : Str)) = false := by decide) : EOk X W (.Name x p) (sVar i) := (b_var i hN hv hd hcd).eo
def sC (d : D) : Env → Res D := fun _ => .ok d
/-- a value that is the same everywhere -/
theorem e_val {v : V} {d : D} (h : PE X e (tC v)) (r : ∀ P H, Rel (gd X) P H v d []) : EOk X W e (sC d) := ⟨PE.imp h fun σ H Q ⟨P, ρ, A, st, q⟩ => q v P H [] (Ext.refl st.und) (r P H) Fresh.nil⟩
theorem e_int {i : Int} {j : Nat} {p : Pos} : EOk X W (.Constant (.int i) j p) (sC (.int i)) := e_val pe_int fun _ _ => .int i
theorem e_bl {i : Bool} {j : Nat} {p : Pos} : EOk X W (.Constant (.bool i) j p) (sC (.bl i)) := e_val pe_bl fun _ _ => .bl i
theorem e_non {j : Nat} {p : Pos} : EOk X W (.Constant .none j p) (sC .non) := e_val pe_non fun _ _ => .non
theorem e_str {i : Str} {j : Nat} {p : Pos} : EOk X W (.Constant (.str i) j p) (sC (.str i)) := e_val pe_str fun _ _ => .str i

/-! ### operators by their rule -/
/-- what an operator's rule asks, by the meaning f -/
def rD (G : Gd) (f : D → D → Option D) : R2 := fun x y H Q => ∃ P dx dy Bx By, Under P H ∧ Rel G P H x dx Bx ∧ Rel G P H y dy By ∧ (∀ b ∈ Bx, P b = none) ∧ (∀ b ∈ By, P b = none) ∧ match f dx dy with
  | some d => Post G P H Q d
  | none => False
def s2 (f : D → D → Option D) (Sa Sb : Env → Res D) : Env → Res D := fun ρ => (Sa ρ).bind fun x => (Sb ρ).bind fun y => opt (f x y)
theorem two {f : D → D → Option D} {r : R2} (hr : ∀ x y H Q, rD (gd X) f x y H Q → r x y H Q) {σ : Sl} {H : Hp} {Q : VK} (h : tE (gd X) W (s2 f Sa Sb) σ H Q) : tOp r (tBo (gd X) W Sa) (tBo (gd X) W Sb) σ H Q := by
  obtain ⟨P, ρ, A, st, h⟩ := h
  refine ⟨P, ρ, A, st, ?_⟩
  unfold s2 at h
  cases ha : Sa ρ with
  | bad => simp only [ha, Res.bind] at h
  | exc x => simp only [ha, Res.bind] at h; exact h
  | ok dx =>
    simp only [ha, Res.bind] at h
    intro v P1 H1 B1 e1 r1 o1
    refine ⟨P1, ρ, A, st.ext e1, ?_⟩
    cases hb : Sb ρ with
    | bad => simp only [hb] at h
    | exc x => simp only [hb] at h; exact PostX.ext h st.und e1
    | ok dy =>
      simp only [hb] at h
      intro v2 P2 H2 B2 e2 r2 o2
      refine hr _ _ _ _ ⟨P2, dx, dy, B1, B2, e2.und, r1.ext e2 o1, r2, (e2.own r1.at o1).2, o2, ?_⟩
      cases hf : f dx dy with
      | none => simp only [hf, opt] at h
      | some d => simp only [hf, opt] at h; exact Post.ext h st.und (e1.trans st.und e2)
theorem e_op {op : Operator} {f : D → D → Option D} (ho : OpR X (binaryOp op) (rD (gd X) f)) (ha : BOk X W a Sa) (hb : BOk X W b Sb) : EOk X W (.BinOp a op b pos) (s2 f Sa Sb) :=
  ⟨PE.imp (pe_op ho ha.pe hb.pe) fun _ _ _ => two fun _ _ _ _ h => h⟩
theorem e_cmp {op : CmpOp} {f : D → D → Option D} (ho : OpR X (compareOp op) (rD (gd X) f)) (ha : BOk X W a Sa) (hb : BOk X W b Sb) (hm : behindInMarks op b = false := by first | exact nobehind _ (by decide) (by decide) | rfl) : EOk X W (.Compare a [op] [b] pos) (s2 f Sa Sb) :=
  ⟨PE.imp (pe_cmpR ho ha.pe hb.pe hm) fun _ _ _ => two fun _ _ _ _ h => h⟩
def asB : D → Res Bool
  | .bl b => .ok b
  | _ => .bad
def sTest (S : Env → Res D) : Env → Res Bool := fun ρ => (S ρ).bind asB
theorem test_of {S : Env → Res D} {σ : Sl} {H : Hp} {Q : Bool → Hp → Prop} (h : tT (gd X) W (sTest S) σ H Q) : tE (gd X) W S σ H fun x H' => ∃ k, x = .bl k ∧ Q k H' := by
  obtain ⟨P, ρ, A, st, h⟩ := h
  refine ⟨P, ρ, A, st, ?_⟩
  unfold sTest at h
  cases hs : S ρ with
  | bad => simp only [hs, Res.bind] at h
  | exc x => simp only [hs, Res.bind] at h; exact h
  | ok d =>
    simp only [hs, Res.bind] at h
    intro v P' H' B e r f
    cases d with
    | bl k => cases r; exact ⟨k, rfl, h P' H' e⟩
    | _ => simp only [asB] at h
theorem t_cmp {op : CmpOp} {f : D → D → Option D} (ho : OpR X (compareOp op) (rD (gd X) f)) (ha : BOk X W a Sa) (hb : BOk X W b Sb) (hm : behindInMarks op b = false := by first | exact nobehind _ (by decide) (by decide) | rfl) : TOk X W (.Compare a [op] [b] pos) (sTest (s2 f Sa Sb)) :=
  ⟨PT.imp (pt_cmpR ho ha.pe hb.pe hm) fun _ _ _ h => two (fun _ _ _ _ h => h) (test_of h)⟩
/-- a name, a call, an item as a test: a bool -/
theorem t_val {S : Env → Res D} (h : EOk X W e S) (he : ∀ whole, isTrue e X.env whole = (do let v ← whole; standAt e.pos; holding [v] (truthy v)) := by intro _; rfl) : TOk X W e (sTest S) :=
  ⟨PT.imp (pt_val h.pe he) fun _ _ _ h => test_of h⟩
def sNot (S : Env → Res Bool) : Env → Res Bool := fun ρ => (S ρ).bind fun b => .ok (!b)
theorem t_not {S : Env → Res Bool} (h : TOk X W a S) : TOk X W (.UnaryOp .Not a pos) (sNot S) := ⟨PT.imp (pt_not h.pt) fun σ H Q ⟨P, ρ, A, st, q⟩ => ⟨P, ρ, A, st, by
  unfold sNot at q
  cases hs : S ρ <;> simp only [hs, Res.bind] at q <;> exact q⟩⟩
def sAndT (S T : Env → Res Bool) : Env → Res Bool := fun ρ => (S ρ).bind fun b => if b = true then T ρ else .ok false
def sOrT (S T : Env → Res Bool) : Env → Res Bool := fun ρ => (S ρ).bind fun b => if b = true then .ok true else T ρ
/-- tests in a chain of and, or -/
structure WOk (X : Cx) (W : WX) (e : Expr) (S : Env → Res Bool) : Prop where pw : PW X e (tT (gd X) W S)
theorem PW.imp {X : Cx} {e : Expr} {t t' : TT} (h : PW X e t) (f : ∀ σ H Q, t' σ H Q → t σ H Q) : PW X e t' := ⟨fun wh pins s σ H Q I q => h.run wh pins s σ H Q I (f σ H Q q)⟩
theorem WOk.t {S : Env → Res Bool} (h : WOk X W e S) : TOk X W e S := ⟨h.pw.pt⟩
theorem w_and1 {S : Env → Res Bool} (h : TOk X W a S) : WOk X W (.BoolOp .And [a] pos) S := ⟨pw_and1 h.pt⟩
theorem w_or1 {S : Env → Res Bool} (h : TOk X W a S) : WOk X W (.BoolOp .Or [a] pos) S := ⟨pw_or1 h.pt⟩
theorem w_and {S T : Env → Res Bool} {r : List Expr} (h : TOk X W a S) (h' : WOk X W (.BoolOp .And (b :: r) pos) T) : WOk X W (.BoolOp .And (a :: b :: r) pos) (sAndT S T) := ⟨PW.imp (pw_and h.pt h'.pw) fun σ H Q ⟨P, ρ, A, st, q⟩ => ⟨P, ρ, A, st, by
  unfold sAndT at q
  cases hs : S ρ with
  | bad => simp only [hs, Res.bind] at q
  | exc x => simp only [hs, Res.bind] at q; exact q
  | ok k =>
    simp only [hs, Res.bind] at q
    intro P1 H1 e1
    cases k with
    | false => simp only [Bool.false_eq_true, if_false] at q ⊢; exact q P1 H1 e1
    | true =>
      simp only [if_true] at q ⊢
      refine ⟨P1, ρ, A, st.ext e1, ?_⟩
      cases ht : T ρ with
      | bad => simp only [ht] at q
      | exc x => simp only [ht] at q; exact PostX.ext q st.und e1
      | ok k' => simp only [ht] at q; exact fun P2 H2 e2 => q P2 H2 (e1.trans st.und e2)⟩⟩
theorem w_or {S T : Env → Res Bool} {r : List Expr} (h : TOk X W a S) (h' : WOk X W (.BoolOp .Or (b :: r) pos) T) : WOk X W (.BoolOp .Or (a :: b :: r) pos) (sOrT S T) := ⟨PW.imp (pw_or h.pt h'.pw) fun σ H Q ⟨P, ρ, A, st, q⟩ => ⟨P, ρ, A, st, by
  unfold sOrT at q
  cases hs : S ρ with
  | bad => simp only [hs, Res.bind] at q
  | exc x => simp only [hs, Res.bind] at q; exact q
  | ok k =>
    simp only [hs, Res.bind] at q
    intro P1 H1 e1
    cases k with
    | true => simp only [if_true] at q ⊢; exact q P1 H1 e1
    | false =>
      simp only [Bool.false_eq_true, if_false] at q ⊢
      refine ⟨P1, ρ, A, st.ext e1, ?_⟩
      cases ht : T ρ with
      | bad => simp only [ht] at q
      | exc x => simp only [ht] at q; exact PostX.ext q st.und e1
      | ok k' => simp only [ht] at q; exact fun P2 H2 e2 => q P2 H2 (e1.trans st.und e2)⟩⟩

/-- a if c else b -/
def sIf (C : Env → Res Bool) (Sa Sb : Env → Res D) : Env → Res D := fun ρ => (C ρ).bind fun k => if k = true then Sa ρ else Sb ρ
theorem e_if {c : Expr} {C : Env → Res Bool} (hc : TOk X W c C) (ha : EOk X W a Sa) (hb : EOk X W b Sb) : EOk X W (.IfExp c a b pos) (sIf C Sa Sb) := ⟨PE.imp (pe_ifExp hc.pt ha.pe hb.pe) fun σ H Q ⟨P, ρ, A, st, q⟩ => ⟨P, ρ, A, st, by
  unfold sIf at q
  cases hs : C ρ with
  | bad => simp only [hs, Res.bind] at q
  | exc x => simp only [hs, Res.bind] at q; exact q
  | ok k =>
    simp only [hs, Res.bind] at q
    intro P1 H1 e1
    cases k with
    | true =>
      simp only [if_true] at q ⊢
      refine ⟨P1, ρ, A, st.ext e1, ?_⟩
      cases ht : Sa ρ with
      | bad => simp only [ht] at q
      | exc x => simp only [ht] at q; exact PostX.ext q st.und e1
      | ok k' => simp only [ht] at q; exact Post.ext q st.und e1
    | false =>
      simp only [Bool.false_eq_true, if_false] at q ⊢
      refine ⟨P1, ρ, A, st.ext e1, ?_⟩
      cases ht : Sb ρ with
      | bad => simp only [ht] at q
      | exc x => simp only [ht] at q; exact PostX.ext q st.und e1
      | ok k' => simp only [ht] at q; exact Post.ext q st.und e1⟩⟩
/-- not, and, or as values: bools -/
def sB (S : Env → Res Bool) : Env → Res D := fun ρ => (S ρ).bind fun b => .ok (.bl b)
theorem val_of {S : Env → Res Bool} {σ : Sl} {H : Hp} {Q : VK} (h : tE (gd X) W (sB S) σ H Q) : tT (gd X) W S σ H fun k H' => Q (.bl k) H' := by
  obtain ⟨P, ρ, A, st, h⟩ := h
  refine ⟨P, ρ, A, st, ?_⟩
  unfold sB at h
  cases hs : S ρ with
  | bad => simp only [hs, Res.bind] at h
  | exc x => simp only [hs, Res.bind] at h; exact h
  | ok d => simp only [hs, Res.bind] at h; exact fun P' H' e => h _ P' H' [] e (.bl d) Fresh.nil
def sNotV (S : Env → Res D) : Env → Res D := sB (sNot (sTest S))
theorem e_not {S : Env → Res D} (h : EOk X W a S) : EOk X W (.UnaryOp .Not a pos) (sNotV S) := ⟨PE.imp (pe_not h.pe) fun σ H Q q => by
  have q1 := val_of q
  obtain ⟨P, ρ, A, st, q1⟩ := q1
  have q2 : tT (gd X) W (sTest S) σ H fun k H' => Q (.bl (!k)) H' := ⟨P, ρ, A, st, by
    unfold sNot at q1
    cases hs : sTest S ρ <;> simp only [hs, Res.bind] at q1 <;> exact q1⟩
  exact test_of q2⟩
def sAnd (Sa Sb : Env → Res D) : Env → Res D := fun ρ => (Sa ρ).bind fun x => (asB x).bind fun k => if k = true then Sb ρ else .ok (.bl false)
def sOr (Sa Sb : Env → Res D) : Env → Res D := fun ρ => (Sa ρ).bind fun x => (asB x).bind fun k => if k = true then .ok (.bl true) else Sb ρ
theorem e_one {op : BoolOp} (h : EOk X W a Sa) : EOk X W (.BoolOp op [a] pos) Sa := ⟨pe_one h.pe⟩
theorem e_and {r : List Expr} (ha : EOk X W a Sa) (hb : EOk X W (.BoolOp .And (b :: r) pos) Sb) : EOk X W (.BoolOp .And (a :: b :: r) pos) (sAnd Sa Sb) := ⟨PE.imp (pe_and ha.pe hb.pe) fun σ H Q ⟨P, ρ, A, st, q⟩ => ⟨P, ρ, A, st, by
  unfold sAnd at q
  cases hs : Sa ρ with
  | bad => simp only [hs, Res.bind] at q
  | exc x => simp only [hs, Res.bind] at q; exact q
  | ok d =>
    simp only [hs, Res.bind] at q
    intro v P1 H1 B e1 r f
    cases d with
    | bl k =>
      cases r
      refine ⟨k, rfl, ?_⟩
      cases k with
      | false => simp only [asB, Bool.false_eq_true, if_false] at q ⊢; exact q _ P1 H1 [] e1 (.bl false) Fresh.nil
      | true =>
        simp only [asB, if_true] at q ⊢
        refine ⟨P1, ρ, A, st.ext e1, ?_⟩
        cases ht : Sb ρ with
        | bad => simp only [ht] at q
        | exc x => simp only [ht] at q; exact PostX.ext q st.und e1
        | ok k' => simp only [ht] at q; exact Post.ext q st.und e1
    | _ => simp only [asB] at q⟩⟩
theorem e_or {r : List Expr} (ha : EOk X W a Sa) (hb : EOk X W (.BoolOp .Or (b :: r) pos) Sb) : EOk X W (.BoolOp .Or (a :: b :: r) pos) (sOr Sa Sb) := ⟨PE.imp (pe_or ha.pe hb.pe) fun σ H Q ⟨P, ρ, A, st, q⟩ => ⟨P, ρ, A, st, by
  unfold sOr at q
  cases hs : Sa ρ with
  | bad => simp only [hs, Res.bind] at q
  | exc x => simp only [hs, Res.bind] at q; exact q
  | ok d =>
    simp only [hs, Res.bind] at q
    intro v P1 H1 B e1 r f
    cases d with
    | bl k =>
      cases r
      refine ⟨k, rfl, ?_⟩
      cases k with
      | true => simp only [asB, if_true] at q ⊢; exact q _ P1 H1 [] e1 (.bl true) Fresh.nil
      | false =>
        simp only [asB, Bool.false_eq_true, if_false] at q ⊢
        refine ⟨P1, ρ, A, st.ext e1, ?_⟩
        cases ht : Sb ρ with
        | bad => simp only [ht] at q
        | exc x => simp only [ht] at q; exact PostX.ext q st.und e1
        | ok k' => simp only [ht] at q; exact Post.ext q st.und e1
    | _ => simp only [asB] at q⟩⟩
/-! ### arguments -/
def sNil : Env → Res (List D) := fun _ => .ok []
def sCons (S : Env → Res D) (T : Env → Res (List D)) : Env → Res (List D) := fun ρ => (S ρ).bind fun d => (T ρ).bind fun ds => .ok (d :: ds)
theorem a_nil : AOk X W [] sNil := ⟨PA.imp pa_nil fun σ H Q ⟨P, ρ, A, st, q⟩ => q [] P H [] (Ext.refl st.und) .nil Fresh.nil⟩
theorem ab_nil : ABOk X W [] sNil := ⟨PA.imp pa_nil fun σ H Q ⟨P, ρ, A, st, q⟩ => q [] P H [] (Ext.refl st.und) .nil fun b h => by simp at h⟩
theorem a_cons {es : List Expr} {S : Env → Res D} {T : Env → Res (List D)} (h : EOk X W e S) (t : AOk X W es T) (hs : starEach (e :: es) X.env = (false, eval e X.env) :: starEach es X.env := by rfl) : AOk X W (e :: es) (sCons S T) := ⟨PA.imp (pa_cons h.pe t.pa hs) fun σ H Q ⟨P, ρ, A, st, q⟩ => ⟨P, ρ, A, st, by
  unfold sCons at q
  cases hs : S ρ with
  | bad => simp only [hs, Res.bind] at q
  | exc x => simp only [hs, Res.bind] at q; exact q
  | ok d =>
    simp only [hs, Res.bind] at q
    intro v P1 H1 B1 e1 r1 f1
    refine ⟨P1, ρ, A, st.ext e1, ?_⟩
    cases ht : T ρ with
    | bad => simp only [ht] at q
    | exc x => simp only [ht] at q; exact PostX.ext q st.und e1
    | ok ds =>
      simp only [ht] at q
      intro vs P2 H2 B2 e2 r2 f2
      have o1 : ∀ b ∈ B1, P1 b = none := fun b hb => (f1.2 b hb).2
      refine q _ P2 H2 (B1 ++ B2) (e1.trans st.und e2) (.cons (r1.ext e2 o1) r2) ⟨?_, fun b hb => ?_⟩
      · refine List.nodup_append.mpr ⟨f1.1, f2.1, fun x hx y hy z => ?_⟩
        obtain ⟨o, ho⟩ := r1.at x hx
        rw [z, (f2.2 y hy).1] at ho; cases ho
      · rcases List.mem_append.mp hb with hb | hb
        · exact ⟨(f1.2 b hb).1, (e2.own r1.at o1).2 b hb⟩
        · exact ⟨e1.free st.und (f2.2 b hb).1, (f2.2 b hb).2⟩⟩⟩
theorem ab_cons {es : List Expr} {S : Env → Res D} {T : Env → Res (List D)} (h : BOk X W e S) (t : ABOk X W es T) (hs : starEach (e :: es) X.env = (false, eval e X.env) :: starEach es X.env := by rfl) : ABOk X W (e :: es) (sCons S T) := ⟨PA.imp (pa_cons h.pe t.pa hs) fun σ H Q ⟨P, ρ, A, st, q⟩ => ⟨P, ρ, A, st, by
  unfold sCons at q
  cases hs : S ρ with
  | bad => simp only [hs, Res.bind] at q
  | exc x => simp only [hs, Res.bind] at q; exact q
  | ok d =>
    simp only [hs, Res.bind] at q
    intro v P1 H1 B1 e1 r1 o1
    refine ⟨P1, ρ, A, st.ext e1, ?_⟩
    cases ht : T ρ with
    | bad => simp only [ht] at q
    | exc x => simp only [ht] at q; exact PostX.ext q st.und e1
    | ok ds =>
      simp only [ht] at q
      intro vs P2 H2 B2 e2 r2 f2
      refine q _ P2 H2 (B1 ++ B2) (e1.trans st.und e2) (.cons (r1.ext e2 o1) r2) fun b hb => ?_
      rcases List.mem_append.mp hb with hb | hb
      · exact (e2.own r1.at o1).2 b hb
      · exact f2 b hb⟩⟩
end
end RL

/-! RL, operators on data. -/
namespace RL
open PySem PySem.Spec PyProof.Rows L2

/-! ### new objects -/
section
variable {G : Gd} {P H : Hp} {p : Addr} {o : HO}
theorem Under.free (u : Under P H) (h : H p = none) : P p = none := by
  cases q : P p with
  | none => rfl
  | some w =>
    rcases u _ _ q with r | ⟨_, _, _, r⟩
    · rw [h] at r; cases r
    · rw [h] at r; cases r
theorem ext_own (u : Under P H) (h : H p = none) : Ext P H P (upd H p o) [] where
  same := Same.refl P
  und := fun a w q => by
    have hp : a ≠ p := fun e => by rw [e, u.free h] at q; cases q
    rw [upd_ne hp]; exact u a w q
  keep := fun b w q _ _ => by rw [upd_ne (ne_of_none q h)]; exact q
  new := fun b w q => .inl q
theorem ext_fix (u : Under P H) (h : H p = none) : Ext P H (upd P p o) (upd H p o) [] where
  same := fun b w q => by rw [upd_ne (ne_of_none q (u.free h))]; exact q
  und := fun a w q => by
    by_cases e : a = p
    · subst e; rw [upd_same] at q ⊢; exact .inl q
    · rw [upd_ne e] at q ⊢; exact u a w q
  keep := fun b w q _ _ => by rw [upd_ne (ne_of_none q h)]; exact q
  new := fun b w q => by
    by_cases e : b = p
    · subst e; exact .inr (.inl h)
    · rw [upd_ne e] at q; exact .inl q
theorem post_val {Q : VK} {v : V} {d : D} (u : Under P H) (h : Post G P H Q d) (r : Rel G P H v d []) : Q v H := h v P H [] (Ext.refl u) r Fresh.nil
theorem fresh1 (u : Under P H) (h : H p = none) : Fresh P H [p] := ⟨by simp, fun b hb => by
  have e : b = p := by simpa using hb
  subst e; exact ⟨h, u.free h⟩⟩
theorem post_lst {Q : VK} {ds : List D} {xs : List V} (u : Under P H) (h : Post G P H Q (.lst true ds)) (r : RelL G P H xs ds []) (hp : H p = none) : Q (.ref p) (upd H p (.lst xs)) :=
  h _ _ _ _ (ext_own u hp) (.lstO upd_same (r.mono (Same.refl P) (by simp))) (fresh1 u hp)
theorem post_tup {Q : VK} {ds : List D} {xs : List V} (u : Under P H) (h : Post G P H Q (.tup ds)) (r : RelL G P H xs ds []) (hp : H p = none) : Q (.ref p) (upd H p (.tup xs)) :=
  h _ _ _ _ (ext_fix u hp) (.tup (SqT.of upd_same) (r.mono (ext_fix (o := .tup xs) u hp).same (by simp))) Fresh.nil
theorem post_dct {Q : VK} {ks : List Key} {ds : List D} {xs : List V} (u : Under P H) (h : Post G P H Q (.dct true ks ds)) (hl : ks.length = xs.length) (r : RelL G P H xs ds []) (hp : H p = none) : Q (.ref p) (upd H p (.dK (ks.zip xs))) :=
  h _ _ _ _ (ext_own u hp) (.dctO upd_same hl (r.mono (Same.refl P) (by simp))) (fresh1 u hp)
theorem RelL.append {G : Gd} {P H : Hp} : ∀ {xs ys : List V} {ds es : List D}, RelL G P H xs ds [] → RelL G P H ys es [] → RelL G P H (xs ++ ys) (ds ++ es) []
  | _, _, _, _, r, t => by
    generalize hA : ([] : List Addr) = A at r
    induction r using RelL.rec (motive_1 := fun _ _ _ _ => True) with
    | nil => exact t
    | cons r1 r2 _ ih =>
      have e := List.append_eq_nil_iff.mp hA.symm
      obtain ⟨rfl, rfl⟩ := e
      exact .cons (A := []) (B := []) r1 (ih rfl)
    | _ => trivial
end
section
variable {G : Gd} {P H : Hp}
theorem RelL.nil_of : ∀ {xs : List V} {ds : List D} {A : List Addr}, RelL G P H xs ds A → cleanL ds = true → RelL G P H xs ds [] := fun {xs ds A} r h => by
  have e := r.clean h
  subst e
  exact r
end

/-! ### data as the library's data -/
def keyPy : Key → PyData
  | .inl i => .int i
  | .inr x => .str x
mutual
def D.py : D → PyData
  | .non => .none
  | .bl b => .bool b
  | .int i => .int i
  | .str x => .str x
  | .tup ds => .tuple (pyL ds)
  | .lst _ ds => .list (pyL ds)
  | .dct _ ks ds => .dict ((ks.map keyPy).zip (pyL ds))
  | _ => .none
def pyL : List D → List PyData
  | [] => []
  | d :: ds => d.py :: pyL ds
end
/-- of no greater depth than n; no dicts, no objects; texts of signs -/
def fitN : Nat → D → Bool
  | _, .non => true
  | _, .bl _ => true
  | _, .int _ => true
  | _, .str x => PyData.strOk x
  | n + 1, .tup ds => ds.all (fitN n)
  | n + 1, .lst _ ds => ds.all (fitN n)
  | _, _ => false
theorem pyL_eq : ∀ ds : List D, pyL ds = ds.map D.py
  | [] => rfl
  | d :: ds => by rw [pyL, pyL_eq ds, List.map_cons]
theorem canLayAll_of : ∀ {ds : List PyData}, (∀ d ∈ ds, d.canLay0 = true) → PyData.canLayAll0 ds = true
  | [], _ => rfl
  | d :: ds, h => by
    rw [PyData.canLayAll0, h d List.mem_cons_self, canLayAll_of fun e he => h e (List.mem_cons_of_mem _ he)]
    rfl
theorem depthAll_of {n : Nat} : ∀ {ds : List PyData}, (∀ d ∈ ds, d.depth ≤ n) → PyData.depthAll ds ≤ n
  | [], _ => by simp [PyData.depthAll]
  | d :: ds, h => by
    have h1 := h d List.mem_cons_self
    have h2 := depthAll_of fun e he => h e (List.mem_cons_of_mem d he)
    simp only [PyData.depthAll]
    omega
theorem fitN_ok : ∀ {n : Nat} {d : D}, fitN n d = true → d.py.canLay0 = true ∧ d.py.depth ≤ n + 1
  | n, .non, _ => by simp [D.py, PyData.canLay0, PyData.depth]
  | n, .bl b, _ => by simp [D.py, PyData.canLay0, PyData.depth]
  | n, .int b, _ => by simp [D.py, PyData.canLay0, PyData.depth]
  | n, .str x, h => by
    refine ⟨?_, by simp [D.py, PyData.depth]⟩
    cases n <;> simpa [fitN, D.py, PyData.canLay0] using h
  | 0, .tup ds, h => by simp [fitN] at h
  | n + 1, .tup ds, h => by
    have h' : ∀ d ∈ ds, fitN n d = true := by simpa [fitN] using h
    have q : ∀ d ∈ ds.map D.py, d.canLay0 = true ∧ d.depth ≤ n + 1 := fun d hd => by
      obtain ⟨e, he, rfl⟩ := List.mem_map.mp hd
      exact fitN_ok (h' e he)
    simp only [D.py, pyL_eq, PyData.canLay0, PyData.depth]
    refine ⟨canLayAll_of fun d hd => (q d hd).1, ?_⟩
    have := depthAll_of fun d hd => (q d hd).2
    omega
  | 0, .lst _ ds, h => by simp [fitN] at h
  | n + 1, .lst _ ds, h => by
    have h' : ∀ d ∈ ds, fitN n d = true := by simpa [fitN] using h
    have q : ∀ d ∈ ds.map D.py, d.canLay0 = true ∧ d.depth ≤ n + 1 := fun d hd => by
      obtain ⟨e, he, rfl⟩ := List.mem_map.mp hd
      exact fitN_ok (h' e he)
    simp only [D.py, pyL_eq, PyData.canLay0, PyData.depth]
    refine ⟨canLayAll_of fun d hd => (q d hd).1, ?_⟩
    have := depthAll_of fun d hd => (q d hd).2
    omega
  | 0, .dct _ _ _, h => by simp [fitN] at h
  | n + 1, .dct _ _ _, h => by simp [fitN] at h
  | 0, .obj _ _ _ _, h => by simp [fitN] at h
  | n + 1, .obj _ _ _ _, h => by simp [fitN] at h
  | 0, .exn _ _ _, h => by simp [fitN] at h
  | n + 1, .exn _ _ _, h => by simp [fitN] at h
  | 0, .scr _, h => by simp [fitN] at h
  | n + 1, .scr _, h => by simp [fitN] at h
def D.fit (d : D) : Bool := fitN 60 d
theorem fit_ok {d : D} (h : d.fit = true) : SeqAt.shaped d.py = true := by
  obtain ⟨h1, h2⟩ := fitN_ok h
  unfold SeqAt.shaped
  rw [h1, decide_eq_true (show d.py.depth ≤ 64 by omega)]
  rfl
section
variable {G : Gd} {P H : Hp}
mutual
theorem Rel.dp (u : Under P H) : ∀ {n : Nat} {v : V} {d : D} {A : List Addr}, Rel G P H v d A → fitN n d = true → Dp G.K H v d.py
  | n, _, _, _, .non, _ => by rw [D.py]; exact .non
  | n, _, _, _, .bl b, _ => by rw [D.py]; exact .bl b
  | n, _, _, _, .int b, _ => by rw [D.py]; exact .int b
  | n, _, _, _, .str b, _ => by rw [D.py]; exact .str b
  | 0, _, _, _, .tup q r, h => by simp [fitN] at h
  | n + 1, _, _, _, .tup q r, h => by rw [D.py]; exact .tup (u.seqT q) (RelL.dp (n := n) u r (by simpa [fitN] using h))
  | 0, _, _, _, .lstF q r, h => by simp [fitN] at h
  | n + 1, _, _, _, .lstF q r, h => by rw [D.py]; exact .lst (u.seqL (SqL.of q)) (RelL.dp (n := n) u r (by simpa [fitN] using h))
  | 0, _, _, _, .lstO q r, h => by simp [fitN] at h
  | n + 1, _, _, _, .lstO q r, h => by rw [D.py]; exact .lst (SqL.of q) (RelL.dp (n := n) u r (by simpa [fitN] using h))
  | n, _, _, _, .scr _, h => by cases n <;> simp [fitN] at h
  | n, _, _, _, .dctF _ _ _, h => by cases n <;> simp [fitN] at h
  | n, _, _, _, .dctO _ _ _, h => by cases n <;> simp [fitN] at h
  | n, _, _, _, .objF _ _ _ _, h => by cases n <;> simp [fitN] at h
  | n, _, _, _, .objO _ _ _ _, h => by cases n <;> simp [fitN] at h
theorem RelL.dp (u : Under P H) : ∀ {n : Nat} {vs : List V} {ds : List D} {A : List Addr}, RelL G P H vs ds A → (∀ d ∈ ds, fitN n d = true) → DpAll G.K H vs (pyL ds)
  | n, _, _, _, .nil, _ => by rw [pyL]; exact .nil
  | n, _, _, _, .cons r t, h => by rw [pyL]; exact .cons (Rel.dp u r (h _ List.mem_cons_self)) (RelL.dp u t fun d hd => h d (List.mem_cons_of_mem _ hd))
end
end

/-! ### the meanings of the operators -/
/-- an int of moderate size -/
def sml (i : Int) : Bool := decide (i.natAbs.log2 < 1900)
def opAdd : D → D → Option D
  | .int i, .int j => some (.int (i + j))
  | .str x, .str y => if x.length + y.length ≤ sizeLine then some (.str (x ++ y)) else none
  | .lst _ xs, .lst _ ys => if cleanL xs = true ∧ cleanL ys = true ∧ xs.length + ys.length ≤ sizeLine then some (.lst true (xs ++ ys)) else none
  | .tup xs, .tup ys => if cleanL xs = true ∧ cleanL ys = true ∧ xs ≠ [] ∧ ys ≠ [] ∧ xs.length + ys.length ≤ sizeLine then some (.tup (xs ++ ys)) else none
  | _, _ => none
def opSub : D → D → Option D
  | .int i, .int j => some (.int (i - j))
  | _, _ => none
def mulOk (i j : Int) : Bool := decide (-(2 ^ 64) < i ∧ i < 2 ^ 64) || decide (-(2 ^ 64) < j ∧ j < 2 ^ 64) || (sml i && sml j)
def opMul : D → D → Option D
  | .int i, .int j => if mulOk i j = true then some (.int (i * j)) else none
  | _, _ => none
def opFdiv : D → D → Option D
  | .int i, .int j => if j ≠ 0 ∧ sml j = true then some (.int (i.fdiv j)) else none
  | _, _ => none
def opMod : D → D → Option D
  | .int i, .int j => if j ≠ 0 then some (.int (i.fmod j)) else none
  | _, _ => none
def opPow : D → D → Option D
  | .int i, .int j => if 0 ≤ j ∧ j ≤ 1000000 ∧ i.natAbs < 2 ^ 64 then some (.int (i ^ j.toNat)) else none
  | _, _ => none
def opLt : D → D → Option D
  | .int i, .int j => some (.bl (decide (i < j)))
  | _, _ => none
def opLe : D → D → Option D
  | .int i, .int j => some (.bl (decide (i ≤ j)))
  | _, _ => none
def opGt : D → D → Option D
  | .int i, .int j => some (.bl (decide (j < i)))
  | _, _ => none
def opGe : D → D → Option D
  | .int i, .int j => some (.bl (decide (j ≤ i)))
  | _, _ => none
def strs? : D → D → Option Bool
  | .str x, .str y => some (decide (x = y))
  | _, _ => none
theorem strs_of {x y : D} {b : Bool} (h : strs? x y = some b) : ∃ a c, x = .str a ∧ y = .str c ∧ b = decide (a = c) := by
  unfold strs? at h
  split at h
  · exact ⟨_, _, rfl, rfl, (Option.some.inj h).symm⟩
  · cases h
def opEq : D → D → Option D := fun x y => match strs? x y with
  | some b => some (.bl b)
  | none => if x.fit = true ∧ y.fit = true then some (.bl (PyData.eqv x.py y.py)) else none
def opNe : D → D → Option D := fun x y => match strs? x y with
  | some b => some (.bl (!b))
  | none => if x.fit = true ∧ y.fit = true then some (.bl (!PyData.eqv x.py y.py)) else none
def isNon : D → Bool
  | .non => true
  | _ => false
def opIs : D → D → Option D
  | d, .non => some (.bl (isNon d))
  | .bl a, .bl b => some (.bl (decide (a = b)))
  | _, _ => none
def opIsNot : D → D → Option D
  | d, .non => some (.bl (!isNon d))
  | .bl a, .bl b => some (.bl (!decide (a = b)))
  | _, _ => none
def scalD : D → Bool
  | .non => true
  | .bl _ => true
  | .int _ => true
  | .str _ => true
  | _ => false
def opIn : D → D → Option D
  | .str x, .str z => if x.cps.size = 1 then some (.bl (decide (x.cps.getD 0 0 ∈ z.cps.toList))) else none
  | d, .lst o ds => if d.fit = true ∧ (D.lst o ds).fit = true then some (.bl (ds.any fun z => PyData.eqv z.py d.py)) else none
  | d, .tup ds => if scalD d = true ∧ ds.all scalD = true then some (.bl (ds.any fun z => PyData.eqv z.py d.py)) else none
  | _, _ => none
def opNotIn : D → D → Option D := fun x y => (opIn x y).bind fun d => match d with
  | .bl b => some (.bl (!b))
  | _ => none

section
variable {X : Cx} {k : Nat}
theorem is_non {G : Gd} {P H : Hp} {v : V} {d : D} {A : List Addr} (r : Rel G P H v d A) : decide (v = .non) = isNon d := by
  cases r <;> simp [isNon]
theorem o_sub : OpR X (binaryOp .Sub) (rD (gd X) opSub) := by
  intro pins s σ H x y v u Q I rx ry ⟨P, dx, dy, Bx, By, un, r1, r2, o1, o2, h⟩
  cases r1 <;> first | exact h.elim | skip
  cases r2 <;> first | exact h.elim | skip
  exact op_sub pins s σ H _ _ _ _ Q I rx ry ⟨_, _, rfl, rfl, post_val un h (.int _)⟩
theorem o_add : OpR X (binaryOp .Add) (rD (gd X) opAdd) := by
  intro pins s σ H x y v u Q I rx ry ⟨P, dx, dy, Bx, By, un, r1, r2, o1, o2, h⟩
  have lst : ∀ {a b : Addr} {xs ys : List V} {ds es : List D} {A B : List Addr}, H a = some (.lst xs) → RelL (gd X) P H xs ds A → H b = some (.lst ys) → RelL (gd X) P H ys es B → RelV (.ref a) v → RelV (.ref b) u →
      (match (if cleanL ds = true ∧ cleanL es = true ∧ ds.length + es.length ≤ sizeLine then some (D.lst true (ds ++ es)) else none) with | some d => Post (gd X) P H Q d | none => False) → wpAny (model X.prog X.w) X.A (binaryOp .Add v u) (EP X pins σ Q) X.xe s := by
    intro a b xs ys ds es A B e1 q1 e2 q2 rx ry h
    split at h
    · rename_i d hd
      split at hd
      · rename_i c
        cases hd
        exact op_cat pins s σ H _ _ _ _ Q I rx ry ⟨a, b, xs, ys, rfl, rfl, e1, e2, by rw [q1.length, q2.length]; exact c.2.2, fun p hp => post_lst un h ((q1.nil_of c.1).append (q2.nil_of c.2.1)) hp⟩
      · cases hd
    · exact h.elim
  have fl : ∀ {a : Addr} {xs : List V}, P a = some (.lst xs) → H a = some (.lst xs) := fun {a xs} e => by
    rcases un _ _ e with z | ⟨_, _, z, _⟩
    · exact z
    · cases z
  cases r1 with
  | int i =>
    cases r2 <;> first | exact h.elim | skip
    exact op_add pins s σ H _ _ _ _ Q I rx ry ⟨_, _, rfl, rfl, post_val un h (.int _)⟩
  | str i =>
    cases r2 <;> first | exact h.elim | skip
    rename_i j
    simp only [opAdd] at h
    split at h
    · rename_i d hd
      split at hd
      · rename_i c
        cases hd
        exact op_add_str pins s σ H _ _ _ _ Q I rx ry ⟨_, _, rfl, rfl, c, post_val un h (.str _)⟩
      · cases hd
    · exact h.elim
  | lstF e1 q1 =>
    cases r2 <;> first | exact h.elim | skip
    · rename_i e2 q2; exact lst (fl e1) q1 (fl e2) q2 rx ry h
    · rename_i e2 q2; exact lst (fl e1) q1 e2 q2 rx ry h
  | lstO e1 q1 =>
    cases r2 <;> first | exact h.elim | skip
    · rename_i e2 q2; exact lst e1 q1 (fl e2) q2 rx ry h
    · rename_i e2 q2; exact lst e1 q1 e2 q2 rx ry h
  | tup e1 q1 =>
    cases r2 <;> first | exact h.elim | skip
    rename_i e2 q2
    simp only [opAdd] at h
    split at h
    · rename_i d hd
      split at hd
      · rename_i c
        cases hd
        have n1 := q1.length
        have n2 := q2.length
        refine op_catT pins s σ H _ _ _ _ Q I rx ry ⟨_, _, _, _, rfl, rfl, un.seqT e1, un.seqT e2, ?_, by rw [n1, n2]; exact c.2.2.2.2, ?_⟩
        · intro z; rw [z] at n1; exact c.2.2.1 (List.eq_nil_of_length_eq_zero n1.symm)
        · refine ⟨fun z => ?_, fun _ p hp => post_tup un h ((q1.nil_of c.1).append (q2.nil_of c.2.1)) hp⟩
          rw [z] at n2; exact absurd (List.eq_nil_of_length_eq_zero n2.symm) c.2.2.2.1
      · cases hd
    · exact h.elim
  | _ => exact h.elim
theorem o_mul : OpR X (binaryOp .Mult) (rD (gd X) opMul) := by
  intro pins s σ H x y v u Q I rx ry ⟨P, dx, dy, Bx, By, un, r1, r2, o1, o2, h⟩
  cases r1 <;> first | exact h.elim | skip
  cases r2 <;> first | exact h.elim | skip
  rename_i i j
  simp only [opMul] at h
  split at h
  · rename_i d hd
    split at hd
    · rename_i c
      cases hd
      simp only [mulOk, sml, Bool.or_eq_true, Bool.and_eq_true, decide_eq_true_eq] at c
      rcases c with (c | c) | c
      · exact op_mul pins s σ H _ _ _ _ Q I rx ry ⟨_, _, rfl, rfl, .inl c, post_val un h (.int _)⟩
      · exact op_mul pins s σ H _ _ _ _ Q I rx ry ⟨_, _, rfl, rfl, .inr c, post_val un h (.int _)⟩
      · exact op_mulW pins s σ H _ _ _ _ Q I rx ry ⟨_, _, rfl, rfl, (by show _ + _ < 1000000; omega), post_val un h (.int _)⟩
    · cases hd
  · exact h.elim
theorem o_fdiv : OpR X (binaryOp .FloorDiv) (rD (gd X) opFdiv) := by
  intro pins s σ H x y v u Q I rx ry ⟨P, dx, dy, Bx, By, un, r1, r2, o1, o2, h⟩
  cases r1 <;> first | exact h.elim | skip
  cases r2 <;> first | exact h.elim | skip
  rename_i i j
  simp only [opFdiv] at h
  split at h
  · rename_i d hd
    split at hd
    · rename_i c
      cases hd
      obtain ⟨t, rfl⟩ := rx
      obtain ⟨t', rfl⟩ := ry
      simp only [sml, decide_eq_true_eq] at c
      exact floordiv_int c.1 ⟨.int _, H, I.tok _, ⟨_, rfl⟩, post_val un h (.int _)⟩ (.inl (PyProof.noPylong_of_log2 (by omega)))
    · cases hd
  · exact h.elim
theorem o_mod : OpR X (binaryOp .Mod) (rD (gd X) opMod) := by
  intro pins s σ H x y v u Q I rx ry ⟨P, dx, dy, Bx, By, un, r1, r2, o1, o2, h⟩
  cases r1 <;> first | exact h.elim | skip
  cases r2 <;> first | exact h.elim | skip
  rename_i i j
  simp only [opMod] at h
  split at h
  · rename_i d hd
    split at hd
    · rename_i c
      cases hd
      exact op_modN pins s σ H _ _ _ _ Q I rx ry ⟨_, _, rfl, rfl, c, post_val un h (.int _)⟩
    · cases hd
  · exact h.elim
theorem o_pow : OpR X (binaryOp .Pow) (rD (gd X) opPow) := by
  intro pins s σ H x y v u Q I rx ry ⟨P, dx, dy, Bx, By, un, r1, r2, o1, o2, h⟩
  cases r1 <;> first | exact h.elim | skip
  cases r2 <;> first | exact h.elim | skip
  rename_i i j
  simp only [opPow] at h
  split at h
  · rename_i d hd
    split at hd
    · rename_i c
      cases hd
      exact op_pow pins s σ H _ _ _ _ Q I rx ry ⟨_, _, rfl, rfl, c, post_val un h (.int _)⟩
    · cases hd
  · exact h.elim
theorem o_lt : OpR X (compareOp .Lt) (rD (gd X) opLt) := by
  intro pins s σ H x y v u Q I rx ry ⟨P, dx, dy, Bx, By, un, r1, r2, o1, o2, h⟩
  cases r1 <;> first | exact h.elim | skip
  cases r2 <;> first | exact h.elim | skip
  exact op_lt pins s σ H _ _ _ _ Q I rx ry ⟨_, _, rfl, rfl, post_val un h (.bl _)⟩
theorem o_le : OpR X (compareOp .LtE) (rD (gd X) opLe) := by
  intro pins s σ H x y v u Q I rx ry ⟨P, dx, dy, Bx, By, un, r1, r2, o1, o2, h⟩
  cases r1 <;> first | exact h.elim | skip
  cases r2 <;> first | exact h.elim | skip
  exact op_le pins s σ H _ _ _ _ Q I rx ry ⟨_, _, rfl, rfl, post_val un h (.bl _)⟩
theorem o_gt : OpR X (compareOp .Gt) (rD (gd X) opGt) := by
  intro pins s σ H x y v u Q I rx ry ⟨P, dx, dy, Bx, By, un, r1, r2, o1, o2, h⟩
  cases r1 <;> first | exact h.elim | skip
  cases r2 <;> first | exact h.elim | skip
  exact op_gt pins s σ H _ _ _ _ Q I rx ry ⟨_, _, rfl, rfl, post_val un h (.bl _)⟩
theorem o_ge : OpR X (compareOp .GtE) (rD (gd X) opGe) := by
  intro pins s σ H x y v u Q I rx ry ⟨P, dx, dy, Bx, By, un, r1, r2, o1, o2, h⟩
  cases r1 <;> first | exact h.elim | skip
  cases r2 <;> first | exact h.elim | skip
  exact op_ge pins s σ H _ _ _ _ Q I rx ry ⟨_, _, rfl, rfl, post_val un h (.bl _)⟩
theorem o_eq (hr : Room k X.A) : OpR X (compareOp .Eq) (rD (gd X) opEq) := by
  intro pins s σ H x y v u Q I rx ry ⟨P, dx, dy, Bx, By, un, r1, r2, o1, o2, h⟩
  unfold opEq at h
  cases hst : strs? dx dy with
  | some b =>
    obtain ⟨a, c, rfl, rfl, rfl⟩ := strs_of hst
    rw [hst] at h
    cases r1
    cases r2
    refine op_eq pins s σ H _ _ _ _ Q I rx ry ⟨rfl, ?_⟩
    have e : decide (V.str a = V.str c) = decide (a = c) := decide_eq_decide.mpr ⟨fun z => V.str.inj z, fun z => congrArg V.str z⟩
    rw [e]
    exact post_val un h (.bl _)
  | none =>
    rw [hst] at h
    by_cases c : dx.fit = true ∧ dy.fit = true
    · simp only [c, and_self, if_true] at h
      exact op_eqD hr.units pins s σ H _ _ _ _ Q I rx ry ⟨_, _, r1.dp un c.1, r2.dp un c.2, fit_ok c.1, fit_ok c.2, post_val un h (.bl _)⟩
    · simp only [c, if_false] at h
theorem o_ne (hr : Room k X.A) : OpR X (compareOp .NotEq) (rD (gd X) opNe) := by
  intro pins s σ H x y v u Q I rx ry ⟨P, dx, dy, Bx, By, un, r1, r2, o1, o2, h⟩
  unfold opNe at h
  cases hst : strs? dx dy with
  | some b =>
    obtain ⟨a, c, rfl, rfl, rfl⟩ := strs_of hst
    rw [hst] at h
    cases r1
    cases r2
    refine op_ne pins s σ H _ _ _ _ Q I rx ry ⟨rfl, ?_⟩
    have e : decide (V.str a = V.str c) = decide (a = c) := decide_eq_decide.mpr ⟨fun z => V.str.inj z, fun z => congrArg V.str z⟩
    rw [e]
    exact post_val un h (.bl _)
  | none =>
    rw [hst] at h
    by_cases c : dx.fit = true ∧ dy.fit = true
    · simp only [c, and_self, if_true] at h
      exact op_neD hr.units pins s σ H _ _ _ _ Q I rx ry ⟨_, _, r1.dp un c.1, r2.dp un c.2, fit_ok c.1, fit_ok c.2, post_val un h (.bl _)⟩
    · simp only [c, if_false] at h
theorem o_is : OpR X (compareOp .Is) (rD (gd X) opIs) := by
  intro pins s σ H x y v u Q I rx ry ⟨P, dx, dy, Bx, By, un, r1, r2, o1, o2, h⟩
  cases r2 with
  | non =>
    have e := is_non r1
    refine op_isN pins s σ H _ _ _ _ Q I rx ry ⟨rfl, ?_⟩
    rw [e]
    cases r1 <;> exact post_val un h (.bl _)
  | bl b =>
    cases r1 <;> first | exact h.elim | skip
    exact op_isBl pins s σ H _ _ _ _ Q I rx ry ⟨_, _, rfl, rfl, post_val un h (.bl _)⟩
  | _ => cases r1 <;> exact h.elim
theorem o_isnot : OpR X (compareOp .IsNot) (rD (gd X) opIsNot) := by
  intro pins s σ H x y v u Q I rx ry ⟨P, dx, dy, Bx, By, un, r1, r2, o1, o2, h⟩
  cases r2 with
  | non =>
    have e := is_non r1
    refine op_notN pins s σ H _ _ _ _ Q I rx ry ⟨rfl, ?_⟩
    rw [e]
    cases r1 <;> exact post_val un h (.bl _)
  | bl b =>
    cases r1 <;> first | exact h.elim | skip
    exact op_notBl pins s σ H _ _ _ _ Q I rx ry ⟨_, _, rfl, rfl, post_val un h (.bl _)⟩
  | _ => cases r1 <;> exact h.elim
end
end RL

/-! RL: subscripts, slices, displays, calls of built-ins. -/
namespace RL
open PySem PySem.Spec PyProof.Rows L2

section
variable {G : Gd} {P H : Hp}
theorem atI_rel {vs : List V} {ds : List D} {A : List Addr} {i : Int} {d : D} (r : RelL G P H vs ds A) (e : atI ds i = some d) : ∃ v B, atI vs i = some v ∧ Rel G P H v d B ∧ ∀ b ∈ B, b ∈ A := by
  unfold atI at e ⊢
  rw [r.length]
  cases h : ixN ds.length i with
  | none => rw [h] at e; cases e
  | some j =>
    rw [h] at e
    exact r.get e
/-- what a dict holds at a key -/
def lookD : List Key → List D → Key → Option D
  | k :: ks, d :: ds, j => if k = j then some d else lookD ks ds j
  | _, _, _ => none
theorem lookD_rel : ∀ {ks : List Key} {vs : List V} {ds : List D} {A : List Addr} {k : Key} {d : D}, RelL G P H vs ds A → ks.length = vs.length → lookD ks ds k = some d → ∃ v B, valV (ks.zip vs) k = some v ∧ Rel G P H v d B ∧ ∀ b ∈ B, b ∈ A
  | [], _, _, _, _, _, _, _, e => by simp [lookD] at e
  | _ :: _, [], _, _, _, _, _, h, _ => by simp at h
  | k :: ks, v :: vs, _, _, j, d, .cons (d := d0) (ds := ds) r t, h, e => by
    by_cases hk : k = j
    · have e' : d0 = d := by simpa [lookD, hk] using e
      subst e'
      refine ⟨v, _, ?_, r, fun b hb => List.mem_append_left _ hb⟩
      simp [valV, hk]
    · have e' : lookD ks ds j = some d := by simpa [lookD, hk] using e
      obtain ⟨w, B, h1, h2, h3⟩ := lookD_rel t (by simpa using h) e'
      refine ⟨w, B, ?_, h2, fun b hb => List.mem_append_right _ (h3 b hb)⟩
      unfold valV at h1 ⊢
      rw [List.zip_cons_cons, List.find?_cons_of_neg (by simpa using hk)]
      exact h1
theorem lookD_none : ∀ {ks : List Key} {vs : List V} {ds : List D} {A : List Addr} {k : Key}, RelL G P H vs ds A → ks.length = vs.length → lookD ks ds k = none → valV (ks.zip vs) k = none
  | [], _, _, _, _, _, _, e => by simp [valV]
  | _ :: _, [], _, _, _, _, h, _ => by simp at h
  | k :: ks, v :: vs, _, _, j, .cons (d := d0) (ds := ds) r t, h, e => by
    by_cases hk : k = j
    · simp [lookD, hk] at e
    · have e' : lookD ks ds j = none := by simpa [lookD, hk] using e
      have h1 := lookD_none t (by simpa using h) e'
      unfold valV at h1 ⊢
      rw [List.zip_cons_cons, List.find?_cons_of_neg (by simpa using hk)]
      exact h1
end
def keyOf : D → Option Key
  | .int i => some (.inl i)
  | .str x => some (.inr x)
  | _ => none
/-- o[i] -/
def opIx : D → D → Option D
  | .tup ds, .int i => atI ds i
  | .lst _ ds, .int i => atI ds i
  | .scr ns, .int i => (atI ns i).map .int
  | .str z, .int i => if z.length ≤ sizeLine then (atI z.cps.toList i).map fun c => .str ⟨#[c]⟩ else none
  | .dct _ ks ds, k => (keyOf k).bind (lookD ks ds)
  | _, _ => none
/-- .. of what is no dict -/
def opIxS : D → D → Option D
  | .dct _ _ _, _ => none
  | d, e => opIx d e
/-- the rule's question where the answer may be owned -/
def rDB (G : Gd) (f : D → D → Option D) : R2 := fun x y H Q => ∃ P dx dy Bx By, Under P H ∧ Rel G P H x dx Bx ∧ Rel G P H y dy By ∧ (∀ b ∈ Bx, P b = none) ∧ (∀ b ∈ By, P b = none) ∧ match f dx dy with
  | some d => PostB G P H Q d
  | none => False
section
variable {X : Cx} {W : WX} {a b e : Expr} {pos : Pos} {Sa Sb S : Env → Res D}
theorem twoB {f : D → D → Option D} {r : R2} (hr : ∀ x y H Q, rDB (gd X) f x y H Q → r x y H Q) {σ : Sl} {H : Hp} {Q : VK} (h : tBo (gd X) W (s2 f Sa Sb) σ H Q) : tOp r (tBo (gd X) W Sa) (tBo (gd X) W Sb) σ H Q := by
  obtain ⟨P, ρ, A, st, h⟩ := h
  refine ⟨P, ρ, A, st, ?_⟩
  unfold s2 at h
  cases ha : Sa ρ with
  | bad => simp only [ha, Res.bind] at h
  | exc x => simp only [ha, Res.bind] at h; exact h
  | ok dx =>
    simp only [ha, Res.bind] at h
    intro v P1 H1 B1 e1 r1 o1
    refine ⟨P1, ρ, A, st.ext e1, ?_⟩
    cases hb : Sb ρ with
    | bad => simp only [hb] at h
    | exc x => simp only [hb] at h; exact PostX.ext h st.und e1
    | ok dy =>
      simp only [hb] at h
      intro v2 P2 H2 B2 e2 r2 o2
      refine hr _ _ _ _ ⟨P2, dx, dy, B1, B2, e2.und, r1.ext e2 o1, r2, (e2.own r1.at o1).2, o2, ?_⟩
      cases hf : f dx dy with
      | none => simp only [hf, opt] at h
      | some d => simp only [hf, opt] at h; exact PostB.ext h st.und (e1.trans st.und e2)
theorem dget_of {x : V} {P H : Hp} {o : Bool} {ks : List Key} {ds : List D} {A : List Addr} (un : Under P H) (r : Rel (gd X) P H x (.dct o ks ds) A) : ∃ d vs B, x = .ref d ∧ Rd H d (.dK (ks.zip vs)) ∧ ks.length = vs.length ∧ RelL (gd X) P H vs ds B ∧ ∀ b ∈ B, b ∈ A := by
  cases r with
  | dctF q l r =>
    refine ⟨_, _, _, rfl, ?_, l, r, fun b hb => hb⟩
    rcases un _ _ q with z | ⟨ob, _, _, z⟩
    · exact .inl z
    · exact .inr ⟨ob, z⟩
  | dctO q l r => exact ⟨_, _, _, rfl, .inl q, l, r, fun b hb => List.mem_cons_of_mem _ hb⟩
theorem ix_ok {x y : V} {H : Hp} {Q : VK} (h : rDB (gd X) opIxS x y H Q) : rIx X.K x y H Q := by
  obtain ⟨P, dx, dy, Bx, By, un, r1, r2, o1, o2, h⟩ := h
  cases ho : opIxS dx dy with
  | none => rw [ho] at h; exact h.elim
  | some d =>
    rw [ho] at h
    cases r1 with
    | tup q r =>
      cases r2 <;> simp [opIxS, opIx] at ho
      obtain ⟨v, B, h1, h2, h3⟩ := atI_rel r ho
      exact .inr (.inl ⟨_, _, _, v, rfl, rfl, un.seqT q, h1, h v P H B (Ext.refl un) h2 fun b hb => o1 b (h3 b hb)⟩)
    | lstF q r =>
      cases r2 <;> simp [opIxS, opIx] at ho
      obtain ⟨v, B, h1, h2, h3⟩ := atI_rel r ho
      exact .inl ⟨_, _, _, v, rfl, rfl, un.seqL (SqL.of q), h1, h v P H B (Ext.refl un) h2 fun b hb => o1 b (h3 b hb)⟩
    | lstO q r =>
      cases r2 <;> simp [opIxS, opIx] at ho
      obtain ⟨v, B, h1, h2, h3⟩ := atI_rel r ho
      exact .inl ⟨_, _, _, v, rfl, rfl, SqL.of q, h1, h v P H B (Ext.refl un) h2 fun b hb => o1 b (List.mem_cons_of_mem _ (h3 b hb))⟩
    | scr q =>
      cases r2 <;> simp [opIxS, opIx] at ho
      obtain ⟨n, hn, rfl⟩ := ho
      refine .inl ⟨_, _, _, .int n, rfl, rfl, un.seqL q, ?_, h _ P H [] (Ext.refl un) (.int n) (fun b hb => by simp at hb)⟩
      unfold atI at hn ⊢
      rw [List.length_map]
      cases hi : ixN _ _ with
      | none => rw [hi] at hn; cases hn
      | some j =>
        rw [hi] at hn
        simp only [Option.bind] at hn ⊢
        rw [List.getElem?_map, hn]; rfl
    | str z =>
      cases r2 <;> simp [opIxS, opIx] at ho
      obtain ⟨c, n, hn, rfl⟩ := ho
      exact .inr (.inr ⟨_, _, n, rfl, rfl, c, hn, h _ P H [] (Ext.refl un) (.str _) (fun b hb => by simp at hb)⟩)
    | _ => cases r2 <;> simp [opIxS, opIx] at ho
def sIx (Sa Sb : Env → Res D) : Env → Res D := s2 opIx Sa Sb
theorem b_sub (hu : X.A.units + 1 < cLine) (ha : BOk X W a Sa) (hb : BOk X W b Sb) (hs : PlainIx b := by exact fun _ _ => rfl) : BOk X W (.Subscript a b pos) (sIx Sa Sb) :=
  ⟨PE.imp (PE.or (pe_ix ix_seq ha.pe hb.pe hs) (pe_dget hu ha.pe hb.pe hs)) fun σ H Q h => by
    obtain ⟨P, ρ, A, st, h'⟩ := id h
    cases hd : Sa ρ with
    | bad => simp only [sIx, s2, hd, Res.bind] at h'
    | exc x => exact .inl ⟨P, ρ, A, st, by rw [hd]; simp only [sIx, s2, hd, Res.bind] at h'; exact h'⟩
    | ok dx =>
      by_cases hdc : ∃ o ks ds, dx = .dct o ks ds
      · refine .inr ⟨P, ρ, A, st, ?_⟩
        rw [hd]
        obtain ⟨o, ks, ds, rfl⟩ := hdc
        simp only [sIx, s2, hd, Res.bind] at h'
        intro v P1 H1 B1 e1 r1 o1
        refine ⟨P1, ρ, A, st.ext e1, ?_⟩
        cases hb : Sb ρ with
        | bad => simp only [hb] at h'
        | exc x => simp only [hb] at h'; exact PostX.ext h' st.und e1
        | ok dy =>
          simp only [hb] at h'
          intro v2 P2 H2 B2 e2 r2 o2
          have r1' := r1.ext e2 o1
          obtain ⟨d, vs, B, rfl, hdk, hl, rl, hB⟩ := dget_of e2.und r1'
          cases hk : keyOf dy with
          | none => simp only [opIx, hk, Option.bind, opt] at h'
          | some k =>
            simp only [opIx, hk, Option.bind] at h'
            cases hlk : lookD ks ds k with
            | none => simp only [hlk, opt] at h'
            | some dv =>
              simp only [hlk, opt] at h'
              obtain ⟨w, C, hw, rw', hC⟩ := lookD_rel rl hl hlk
              refine ⟨d, w, rfl, .inl ⟨_, k, hdk, ?_, hw.symm⟩, PostB.ext h' st.und (e1.trans st.und e2) _ P2 H2 C (Ext.refl e2.und) rw' fun b hb => (e2.own r1.at o1).2 b (hB b (hC b hb))⟩
              cases r2 <;> simp [keyOf] at hk <;> subst hk <;> rfl
      · have hne : ∀ o ks ds, dx ≠ .dct o ks ds := fun o ks ds e => hdc ⟨o, ks, ds, e⟩
        have heq : s2 opIxS Sa Sb ρ = s2 opIx Sa Sb ρ := by
          simp only [s2, hd, Res.bind]
          cases Sb ρ with
          | ok dy => cases dx <;> first | exact absurd rfl (hne _ _ _) | rfl
          | exc x => rfl
          | bad => rfl
        refine .inl (twoB (f := opIxS) (fun x y H2 Q2 h2 => ix_ok h2) (Sa := Sa) (Sb := Sb) ⟨P, ρ, A, st, by rw [heq]; exact h'⟩)⟩
theorem e_sub (hu : X.A.units + 1 < cLine) (ha : BOk X W a Sa) (hb : BOk X W b Sb) (hs : PlainIx b := by exact fun _ _ => rfl) : EOk X W (.Subscript a b pos) (sCl (sIx Sa Sb)) := (b_sub hu ha hb hs).eo

/-! ### slices -/
structure POk (X : Cx) (W : WX) (e : Option Expr) (S : Env → Res (Option Int)) : Prop where
  po : PO X e fun σ H Q => ∃ P ρ A, StRel (gd X) P H σ ρ A ∧ match S ρ with
    | .ok i => ∀ P' H', Ext P H P' H' [] → Q i H'
    | .exc x => PostX (gd X) P H W σ x
    | .bad => False
theorem PO.imp {X : Cx} {e : Option Expr} {t t' : TO} (h : PO X e t) (f : ∀ σ H Q, t' σ H Q → t σ H Q) : PO X e t' := ⟨fun pins s σ H Q I q => h.run pins s σ H Q I (f σ H Q q)⟩
def asI : D → Res Int
  | .int i => .ok i
  | _ => .bad
def sPn : Env → Res (Option Int) := fun _ => .ok none
def sPs (S : Env → Res D) : Env → Res (Option Int) := fun ρ => (S ρ).bind fun d => (asI d).bind fun i => .ok (some i)
theorem p_none : POk X W none sPn := ⟨PO.imp po_none fun σ H Q ⟨P, ρ, A, st, q⟩ => q P H (Ext.refl st.und)⟩
theorem p_some (h : BOk X W e S) : POk X W (some e) (sPs S) := ⟨PO.imp (po_some h.pe) fun σ H Q ⟨P, ρ, A, st, q⟩ => ⟨P, ρ, A, st, by
  unfold sPs at q
  cases hs : S ρ with
  | bad => simp only [hs, Res.bind] at q
  | exc x => simp only [hs, Res.bind] at q; exact q
  | ok d =>
    simp only [hs, Res.bind] at q
    intro v P' H' B e r f
    cases d with
    | int i => cases r; exact ⟨i, rfl, q P' H' e⟩
    | _ => simp only [asI] at q⟩⟩
/-- xs[lo:hi] of any list -/
def cutL {α : Type} (xs : List α) (lo hi : Option Int) : List α := (xs.drop (HT.sIx xs.length 0 lo)).take (HT.sIx xs.length xs.length hi - HT.sIx xs.length 0 lo)
theorem RelL.drop {G : Gd} {P H : Hp} : ∀ (n : Nat) {vs : List V} {ds : List D}, RelL G P H vs ds [] → RelL G P H (vs.drop n) (ds.drop n) [] := fun n {vs ds} r => by
  generalize hA : ([] : List Addr) = A at r
  induction n generalizing vs ds A with
  | zero => subst hA; exact r
  | succ n ih =>
    cases r with
    | nil => exact .nil
    | cons r1 r2 =>
      have e := List.append_eq_nil_iff.mp hA.symm
      obtain ⟨rfl, rfl⟩ := e
      exact ih _ rfl r2
theorem RelL.take {G : Gd} {P H : Hp} : ∀ (n : Nat) {vs : List V} {ds : List D}, RelL G P H vs ds [] → RelL G P H (vs.take n) (ds.take n) [] := fun n {vs ds} r => by
  generalize hA : ([] : List Addr) = A at r
  induction n generalizing vs ds A with
  | zero => subst hA; exact .nil
  | succ n ih =>
    cases r with
    | nil => exact .nil
    | cons r1 r2 =>
      have e := List.append_eq_nil_iff.mp hA.symm
      obtain ⟨rfl, rfl⟩ := e
      exact .cons (A := []) (B := []) r1 (ih _ rfl r2)
theorem RelL.cut {G : Gd} {P H : Hp} {vs : List V} {ds : List D} (r : RelL G P H vs ds []) (lo hi : Option Int) : RelL G P H (cutV vs lo hi) (cutL ds lo hi) [] := by
  unfold cutV cutL
  rw [r.length]
  exact RelL.take _ (RelL.drop _ r)
theorem ints_rel {G : Gd} {P H : Hp} : ∀ ns : List Int, RelL G P H (ns.map V.int) (ns.map D.int) []
  | [] => .nil
  | n :: ns => .cons (A := []) (B := []) (.int n) (ints_rel ns)
def opSl (d : D) (lo hi : Option Int) : Option D := match d with
  | .lst _ ds => if cleanL ds = true then some (.lst true (cutL ds lo hi)) else none
  | .tup ds => if cleanL ds = true ∧ ¬ (HT.sIx ds.length 0 lo = 0 ∧ HT.sIx ds.length ds.length hi = ds.length) then some (.tup (cutL ds lo hi)) else none
  | .str z => if z.length ≤ sizeLine then some (.str (cutS z lo hi)) else none
  | .scr ns => some (.lst true ((cutL ns lo hi).map .int))
  | _ => none
def sSl (S : Env → Res D) (L U : Env → Res (Option Int)) : Env → Res D := fun ρ => (S ρ).bind fun d => (L ρ).bind fun lo => (U ρ).bind fun hi => opt (opSl d lo hi)
theorem SlR.or {X : Cx} {r r' : V → Option Int → Option Int → Hp → VK → Prop} (h : SlR X r) (h' : SlR X r') : SlR X fun x lo hi H Q => r x lo hi H Q ∨ r' x lo hi H Q := by
  intro pins s σ H x v vl vu lo hi sl Q I rx hs pl pu q
  rcases q with q | q
  · exact h pins s σ H x v vl vu lo hi sl Q I rx hs pl pu q
  · exact h' pins s σ H x v vl vu lo hi sl Q I rx hs pl pu q
theorem e_slice {lo hi : Option Expr} {p2 : Pos} {L U : Env → Res (Option Int)} (he : BOk X W e S) (hl : POk X W lo L) (hh : POk X W hi U) : EOk X W (.Subscript e (.Slice lo hi none p2) pos) (sSl S L U) :=
  ⟨PE.imp (pe_slice (SlR.or sl_list (SlR.or sl_tup sl_str)) he.pe hl.po hh.po) fun σ H Q ⟨P, ρ, A, st, h⟩ => ⟨P, ρ, A, st, by
    unfold sSl at h
    cases hs : S ρ with
    | bad => simp only [hs, Res.bind] at h
    | exc x => simp only [hs, Res.bind] at h; exact h
    | ok d =>
      simp only [hs, Res.bind] at h
      intro v P1 H1 B1 e1 r1 o1
      refine ⟨P1, ρ, A, st.ext e1, ?_⟩
      cases hL : L ρ with
      | bad => simp only [hL] at h
      | exc x => simp only [hL] at h; exact PostX.ext h st.und e1
      | ok l =>
        simp only [hL] at h
        intro P2 H2 e2
        have e12 := e1.trans st.und e2
        refine ⟨P2, ρ, A, st.ext e12, ?_⟩
        cases hU : U ρ with
        | bad => simp only [hU] at h
        | exc x => simp only [hU] at h; exact PostX.ext h st.und e12
        | ok u =>
          simp only [hU] at h
          intro P3 H3 e3
          have e13 := e12.trans st.und e3
          have r3 := (r1.ext e2 o1).ext e3 (e2.own r1.at o1).2
          cases ho : opSl d l u with
          | none => simp only [ho, opt] at h
          | some z =>
            simp only [ho, opt] at h
            have q := Post.ext h st.und e13
            have un := e13.und
            clear h
            cases r3 with
            | tup q1 r =>
              simp only [opSl] at ho
              split at ho
              · rename_i c
                cases ho
                refine .inr (.inl ⟨_, _, rfl, un.seqT q1, ?_, fun p hp => post_tup un q ((r.nil_of c.1).cut l u) hp⟩)
                rw [r.length]; exact c.2
              · cases ho
            | lstF q1 r =>
              simp only [opSl] at ho
              split at ho
              · rename_i c
                cases ho
                exact .inl ⟨_, _, rfl, un.seqL (SqL.of q1), fun p hp => post_lst un q ((r.nil_of c).cut l u) hp⟩
              · cases ho
            | lstO q1 r =>
              simp only [opSl] at ho
              split at ho
              · rename_i c
                cases ho
                exact .inl ⟨_, _, rfl, SqL.of q1, fun p hp => post_lst un q ((r.nil_of c).cut l u) hp⟩
              · cases ho
            | @scr a0 ns q1 =>
              simp only [opSl] at ho
              cases ho
              refine .inl ⟨_, _, rfl, un.seqL q1, fun p hp => ?_⟩
              have e : cutV (ns.map V.int) l u = (cutL ns l u).map V.int := by
                unfold cutV cutL
                rw [List.length_map, List.map_take, List.map_drop]
              rw [e]
              exact post_lst un q (ints_rel _) hp
            | str x =>
              simp only [opSl] at ho
              split at ho
              · rename_i c
                cases ho
                exact .inr (.inr ⟨_, rfl, c, post_val un q (.str _)⟩)
              · cases ho
            | _ => simp [opSl] at ho⟩⟩
/-- xs[::-1] -/
def opRev : D → Option D
  | .lst _ ds => if cleanL ds = true then some (.lst true ds.reverse) else none
  | _ => none
theorem RelL.rev {G : Gd} {P H : Hp} : ∀ {vs : List V} {ds : List D}, RelL G P H vs ds [] → RelL G P H vs.reverse ds.reverse [] := fun {vs ds} r => by
  generalize hA : ([] : List Addr) = A at r
  induction vs generalizing ds A with
  | nil => cases r; exact .nil
  | cons v vs ih =>
    cases r with
    | cons r1 r2 =>
      have e := List.append_eq_nil_iff.mp hA.symm
      obtain ⟨rfl, rfl⟩ := e
      rw [List.reverse_cons, List.reverse_cons]
      exact (ih _ rfl r2).append (.cons (A := []) (B := []) r1 .nil)
def s1 (f : D → Option D) (S : Env → Res D) : Env → Res D := fun ρ => (S ρ).bind fun d => opt (f d)
theorem e_rev {k : Nat} {p1 p2 p3 : Pos} (he : BOk X W e S) : EOk X W (.Subscript e (.Slice none none (some (.UnaryOp .USub (.Constant (.int 1) k p1) p2)) p3) pos) (s1 opRev S) :=
  ⟨PE.imp (pe_revL he.pe) fun σ H Q ⟨P, ρ, A, st, h⟩ => ⟨P, ρ, A, st, by
    unfold s1 at h
    cases hs : S ρ with
    | bad => simp only [hs, Res.bind] at h
    | exc x => simp only [hs, Res.bind] at h; exact h
    | ok d =>
      simp only [hs, Res.bind] at h
      intro v P1 H1 B1 e1 r1 o1
      cases ho : opRev d with
      | none => simp only [ho, opt] at h
      | some z =>
        simp only [ho, opt] at h
        have q := Post.ext h st.und e1
        have un := e1.und
        cases r1 with
        | lstF q1 r =>
          simp only [opRev] at ho
          split at ho
          · rename_i c
            cases ho
            exact ⟨_, _, rfl, un.seqL (SqL.of q1), fun p hp => post_lst un q (r.nil_of c).rev hp⟩
          · cases ho
        | lstO q1 r =>
          simp only [opRev] at ho
          split at ho
          · rename_i c
            cases ho
            exact ⟨_, _, rfl, SqL.of q1, fun p hp => post_lst un q (r.nil_of c).rev hp⟩
          · cases ho
        | _ => simp [opRev] at ho⟩⟩

/-! ### displays -/
def sTup (S : Env → Res (List D)) : Env → Res D := fun ρ => (S ρ).bind fun ds => if ds.length ≤ sizeLine then .ok (.tup ds) else .bad
def sLst (S : Env → Res (List D)) : Env → Res D := fun ρ => (S ρ).bind fun ds => if ds.length ≤ sizeLine then .ok (.lst true ds) else .bad
theorem upd_own {P H : Hp} {A : List Addr} {p : Addr} {o : HO} (h : H p = none) (ha : ∀ b ∈ A, ∃ w, H b = some w) : ∀ b ∈ A, upd H p o b = H b := fun b hb => by
  obtain ⟨w, q⟩ := ha b hb
  exact upd_ne (ne_of_none q h)
theorem e_tup {es : List Expr} {k : Nat} {S : Env → Res (List D)} (h : AOk X W es S) : EOk X W (.Tuple es k pos) (sTup S) := ⟨PE.imp (pe_tup h.pa) fun σ H Q ⟨P, ρ, A, st, h⟩ => ⟨P, ρ, A, st, by
  unfold sTup at h
  cases hs : S ρ with
  | bad => simp only [hs, Res.bind] at h
  | exc x => simp only [hs, Res.bind] at h; exact h
  | ok ds =>
    simp only [hs, Res.bind] at h
    intro vs P1 H1 B e1 r f
    split at h
    · rename_i d hd
      split at hd
      · rename_i c
        cases hd
        refine ⟨by rw [r.length]; exact c, fun p hp => ?_⟩
        have e2 := ext_fix (o := .tup vs) e1.und hp
        have o1 : ∀ b ∈ B, P1 b = none := fun b hb => (f.2 b hb).2
        refine h _ _ _ B (e1.trans st.und e2) (.tup (SqT.of upd_same) (r.ext e2 o1)) ⟨f.1, fun b hb => ⟨(f.2 b hb).1, (e2.own r.at o1).2 b hb⟩⟩
      · cases hd
    · rename_i hd; split at hd <;> cases hd
    · exact h.elim⟩⟩
theorem e_lst {es : List Expr} {S : Env → Res (List D)} (h : AOk X W es S) : EOk X W (.List es pos) (sLst S) := ⟨PE.imp (pe_lst h.pa) fun σ H Q ⟨P, ρ, A, st, h⟩ => ⟨P, ρ, A, st, by
  unfold sLst at h
  cases hs : S ρ with
  | bad => simp only [hs, Res.bind] at h
  | exc x => simp only [hs, Res.bind] at h; exact h
  | ok ds =>
    simp only [hs, Res.bind] at h
    intro vs P1 H1 B e1 r f
    split at h
    · rename_i d hd
      split at hd
      · rename_i c
        cases hd
        refine ⟨by rw [r.length]; exact c, fun p hp => ?_⟩
        have e2 := ext_own (o := .lst vs) e1.und hp
        have o1 : ∀ b ∈ B, P1 b = none := fun b hb => (f.2 b hb).2
        have np : p ∉ B := fun hb => by
          obtain ⟨w, q⟩ := r.at p hb
          rw [hp] at q; cases q
        refine h _ _ _ (p :: B) (e1.trans st.und e2) (.lstO upd_same (r.ext e2 o1)) ⟨List.nodup_cons.mpr ⟨np, f.1⟩, fun b hb => ?_⟩
        rcases List.mem_cons.mp hb with rfl | hb
        · exact ⟨e1.free st.und hp, e1.und.free hp⟩
        · exact f.2 b hb
      · cases hd
    · rename_i hd; split at hd <;> cases hd
    · exact h.elim⟩⟩
/-- {} -/
theorem e_dnew : EOk X W (.Dict [] [] pos) (sC (.dct true [] [])) := ⟨PE.imp pe_dnewK fun σ H Q ⟨P, ρ, A, st, h⟩ => fun p hp => post_dct (ks := []) (xs := []) st.und h rfl .nil hp⟩

/-! ### calls of built-ins -/
/-- what a built-in's rule asks, by the meaning f -/
def rC (G : Gd) (f : List D → Option D) : List V → Hp → VK → Prop := fun xs H Q => ∃ P ds B, Under P H ∧ RelL G P H xs ds B ∧ (∀ b ∈ B, P b = none) ∧ match f ds with
  | some d => Post G P H Q d
  | none => False
def sCall (f : List D → Option D) (S : Env → Res (List D)) : Env → Res D := fun ρ => (S ρ).bind fun ds => opt (f ds)
theorem call_of {f : List D → Option D} {S : Env → Res (List D)} {σ : Sl} {H : Hp} {Q : VK} (h : tE (gd X) W (sCall f S) σ H Q) : tCB (rC (gd X) f) (tLB (gd X) W S) σ H Q := by
  obtain ⟨P, ρ, A, st, h⟩ := h
  refine ⟨P, ρ, A, st, ?_⟩
  unfold sCall at h
  cases hs : S ρ with
  | bad => simp only [hs, Res.bind] at h
  | exc x => simp only [hs, Res.bind] at h; exact h
  | ok ds =>
    simp only [hs, Res.bind] at h
    intro vs P1 H1 B e1 r o
    refine ⟨P1, ds, B, e1.und, r, o, ?_⟩
    cases hf : f ds with
    | none => simp only [hf, opt] at h
    | some d => simp only [hf, opt] at h; exact Post.ext h st.und e1
theorem e_callB {id : String} {x : Str} {p : Pos} {es : List Expr} {f : List D → Option D} {S : Env → Res (List D)} (hc : CallR X (.builtin id) (rC (gd X) f)) (hm : X.mg x = none) (hv : bootBuiltins x = some (.builtin id)) (ha : ABOk X W (e :: es) S)
    (hg : Gl X x := by rfl) (hn : x ≠ "__name__" := by decide) (hdb : (x == ("__debug__" : Str)) = false := by decide)
    (he : starEach (e :: es) X.env = (false, eval e X.env) :: starEach es X.env := by rfl) (hpl : (backTo pos (starEach es X.env)).any (·.1) = false := by rfl) : EOk X W (.Call (.Name x p) (e :: es) [] pos) (sCall f S) :=
  ⟨PE.imp (pe_callB hc hg hm hv ha.pa hn hdb he hpl) fun _ _ _ h => call_of h⟩
theorem e_callTy {id : String} {x : Str} {p : Pos} {es : List Expr} {f : List D → Option D} {S : Env → Res (List D)} (hc : CallR X (.type id) (rC (gd X) f)) (hm : X.mg x = none) (hv : bootBuiltins x = some (.type id)) (ha : ABOk X W (e :: es) S)
    (hg : Gl X x := by rfl) (hn : x ≠ "__name__" := by decide) (hdb : (x == ("__debug__" : Str)) = false := by decide)
    (he : starEach (e :: es) X.env = (false, eval e X.env) :: starEach es X.env := by rfl) (hpl : (backTo pos (starEach es X.env)).any (·.1) = false := by rfl) : EOk X W (.Call (.Name x p) (e :: es) [] pos) (sCall f S) :=
  ⟨PE.imp (pe_callTy hc hg hm hv ha.pa hn hdb he hpl) fun _ _ _ h => call_of h⟩
end
end RL

/-! RL: targets, what is walked, list comprehensions. -/
namespace RL
open PySem PySem.Spec PyProof.Rows L2

/-! ### targets -/
inductive Tg where
  | nm (i : Nat)
  | tp (ts : List Tg)
mutual
def Tg.set : Tg → D → Env → Option Env
  | .nm i, d, ρ => if i < ρ.length then some (ρ.set i (some d)) else none
  | .tp ts, .tup ds, ρ => tgSetL ts ds ρ
  | _, _, _ => none
def tgSetL : List Tg → List D → Env → Option Env
  | [], [], ρ => some ρ
  | t :: ts, d :: ds, ρ => (t.set d ρ).bind (tgSetL ts ds)
  | _, _, _ => none
end
mutual
def Tg.slots : Tg → List Nat
  | .nm i => [i]
  | .tp ts => tgSlots ts
def tgSlots : List Tg → List Nat
  | [] => []
  | t :: ts => t.slots ++ tgSlots ts
end
theorem tgSetL_len : ∀ {ts : List Tg} {ds : List D} {ρ ρ' : Env}, tgSetL ts ds ρ = some ρ' → ts.length = ds.length
  | [], [], _, _, _ => rfl
  | [], _ :: _, _, _, h => by simp [tgSetL] at h
  | _ :: _, [], _, _, h => by simp [tgSetL] at h
  | t :: ts, d :: ds, ρ, ρ', h => by
    simp only [tgSetL] at h
    cases e : t.set d ρ with
    | none => rw [e] at h; cases h
    | some r =>
      rw [e] at h
      have q := tgSetL_len (ts := ts) (ds := ds) (ρ := r) (ρ' := ρ') h
      simp only [List.length_cons]; omega
def tG (G : Gd) (t : Tg) : TG := fun x σ H Q => ∃ P ρ A d B, StRel G P H σ ρ A ∧ Rel G P H x d B ∧ (B ++ A).Nodup ∧ (∀ b ∈ B, P b = none) ∧ match t.set d ρ with
  | some ρ' => ∀ σ' A', StRel G P H σ' ρ' A' → (∀ b ∈ A', b ∈ B ++ A) → σ'.length = σ.length → (∀ j, j ∉ t.slots → σ'[j]? = σ[j]?) → Q σ' H
  | none => False
def tGL (G : Gd) (ts : List Tg) : TGs := fun xs σ H Q => ∃ P ρ A ds B, StRel G P H σ ρ A ∧ RelL G P H xs ds B ∧ (B ++ A).Nodup ∧ (∀ b ∈ B, P b = none) ∧ match tgSetL ts ds ρ with
  | some ρ' => ∀ σ' A', StRel G P H σ' ρ' A' → (∀ b ∈ A', b ∈ B ++ A) → σ'.length = σ.length → (∀ j, j ∉ tgSlots ts → σ'[j]? = σ[j]?) → Q σ' H
  | none => False
structure GOk (X : Cx) (tg : Expr) (t : Tg) : Prop where pg : PG X tg (tG (gd X) t)
structure GsOk (X : Cx) (tgs : List Expr) (ts : List Tg) : Prop where pgs : PGs X tgs (tGL (gd X) ts)
theorem PG.imp {X : Cx} {e : Expr} {t t' : TG} (h : PG X e t) (f : ∀ x σ H Q, t' x σ H Q → t x σ H Q) : PG X e t' := ⟨fun pins s σ H v u Q I r q => h.run pins s σ H v u Q I r (f v σ H Q q)⟩
theorem PGs.imp {X : Cx} {e : List Expr} {t t' : TGs} (h : PGs X e t) (f : ∀ x σ H Q, t' x σ H Q → t x σ H Q) : PGs X e t' := ⟨fun pins s σ H v u Q I r q => h.run pins s σ H v u Q I r (f v σ H Q q)⟩
section
variable {X : Cx} {W : WX} {e a b : Expr} {pos : Pos} {Sa Sb S : Env → Res D}
/-- a name takes a value -/
theorem StRel.store {G : Gd} {P H : Hp} {σ : Sl} {ρ : Env} {A B : List Addr} {i : Nat} {x : V} {d : D} (st : StRel G P H σ ρ A) (r : Rel G P H x d B) (nd : (B ++ A).Nodup) (o : ∀ b ∈ B, P b = none) (hi : i < ρ.length) :
    ∃ A', StRel G P H (σ.set i (some x)) (ρ.set i (some d)) A' ∧ ∀ b ∈ A', b ∈ B ++ A := by
  obtain ⟨B0, C, p, q, _⟩ := st.env.out hi
  obtain ⟨A', p', q'⟩ := q.put (i := i) r (by simpa using hi) (by simp [hi])
  rw [List.set_set] at q'
  have cA : ∀ b ∈ C, b ∈ A := fun b hb => p.symm.subset (List.mem_append_right _ hb)
  have sub : ∀ b ∈ A', b ∈ B ++ A := fun b hb => (List.mem_append.mp (p'.subset hb)).elim (List.mem_append_left _) fun z => List.mem_append_right _ (cA b z)
  obtain ⟨n1, n2, n3⟩ := List.nodup_append.mp nd
  refine ⟨A', ⟨st.und, q', p'.symm.nodup_iff.mp (List.nodup_append.mpr ⟨n1, (p.nodup_iff.mp n2).sublist (List.sublist_append_right _ _), fun x hx y hy => n3 x hx y (cA y hy)⟩), fun b hb => ?_⟩, sub⟩
  rcases List.mem_append.mp (sub b hb) with z | z
  · exact o b z
  · exact st.off b z
theorem g_nm (i : Nat) {x : Str} {p : Pos} (hN : X.N.Nodup) (hi : X.N[i]? = some x := by rfl) (hx : Loc X.env.scope x := by first | exact Or.inl rfl | exact Or.inr rfl) (hf : X.fn x = true ∨ X.env.scope.names.lookup x = some .local := by first | exact .inl rfl | exact .inr rfl) : GOk X (.Name x p) (.nm i) :=
  ⟨PG.imp (pg_name hN hi hx hf) fun v σ H Q ⟨P, ρ, A, d, B, st, r, nd, o, h⟩ => by
    simp only [Tg.set] at h
    by_cases hl : i < ρ.length
    · rw [if_pos hl] at h
      obtain ⟨A', st', sub⟩ := st.store r nd o hl
      refine h _ A' st' sub (by simp) fun j hj => ?_
      have hne : i ≠ j := fun e => hj (by simp [Tg.slots, e])
      rw [List.getElem?_set_ne hne]
    · rw [if_neg hl] at h; exact h.elim⟩
theorem gs_nil : GsOk X [] [] := ⟨PGs.imp pgs_nil fun xs σ H Q ⟨P, ρ, A, ds, B, st, r, nd, o, h⟩ => by
  cases r with
  | nil => exact ⟨rfl, h σ A st (fun b hb => by simpa using hb) rfl fun _ _ => rfl⟩
  | cons _ _ => simp only [tgSetL] at h⟩
theorem gs_cons {es : List Expr} {t : Tg} {ts : List Tg} (h1 : GOk X e t) (h2 : GsOk X es ts) (hs : (assignEach (e :: es) X.env).map (·.2) = assign e X.env :: (assignEach es X.env).map (·.2) := by rfl) : GsOk X (e :: es) (t :: ts) :=
  ⟨PGs.imp (pgs_cons h1.pg h2.pgs hs) fun xs σ H Q ⟨P, ρ, A, ds, B, st, r, nd, o, h⟩ => by
    cases r with
    | nil => simp only [tgSetL] at h
    | @cons v d B1 vs ds B2 r1 r2 =>
      obtain ⟨m1, m2, m3⟩ := List.nodup_append.mp nd
      obtain ⟨l1, l2, l3⟩ := List.nodup_append.mp m1
      refine ⟨_, _, rfl, P, ρ, A, d, B1, st, r1, List.nodup_append.mpr ⟨l1, m2, fun x hx y hy => m3 x (List.mem_append_left _ hx) y hy⟩, fun b hb => o b (List.mem_append_left _ hb), ?_⟩
      simp only [tgSetL] at h
      cases ht : t.set d ρ with
      | none => rw [ht] at h; exact h.elim
      | some ρ1 =>
        rw [ht] at h
        simp only [Option.bind] at h
        intro σ1 A1 st1 sub1 len1 fr1
        refine ⟨P, ρ1, A1, ds, B2, st1, r2, List.nodup_append.mpr ⟨l2, st1.nd, fun x hx y hy e => ?_⟩, fun b hb => o b (List.mem_append_right _ hb), ?_⟩
        · rcases List.mem_append.mp (sub1 y hy) with z | z
          · exact l3 y z x hx e.symm
          · exact m3 x (List.mem_append_right _ hx) y z e
        · cases hq : tgSetL ts ds ρ1 with
          | none => rw [hq] at h; exact h.elim
          | some ρ2 =>
            rw [hq] at h
            intro σ2 A2 st2 sub2 len2 fr2
            refine h σ2 A2 st2 (fun b hb => ?_) (len2.trans len1) fun j hj => ?_
            · rcases List.mem_append.mp (sub2 b hb) with z | z
              · exact List.mem_append_left _ (List.mem_append_right _ z)
              · rcases List.mem_append.mp (sub1 b z) with z | z
                · exact List.mem_append_left _ (List.mem_append_left _ z)
                · exact List.mem_append_right _ z
            · simp only [tgSlots, List.mem_append, not_or] at hj
              rw [fr2 j hj.2, fr1 j hj.1]⟩
theorem g_tup {es : List Expr} {k : Nat} {ts : List Tg} (hc : X.calm = true) (h : GsOk X es ts) (hn : (assignEach es X.env).length = ts.length := by rfl) (hst : (assignEach es X.env).findIdx? (·.1) = none := by rfl) : GOk X (.Tuple es k pos) (.tp ts) :=
  ⟨PG.imp (pg_tup hc h.pgs hn hst) fun x σ H Q ⟨P, ρ, A, d, B, st, r, nd, o, h⟩ => by
    cases r with
    | @tup a xs ds A0 q r =>
      simp only [Tg.set] at h
      refine ⟨a, xs, rfl, st.und.seqT q, ?_, P, ρ, A, ds, B, st, r, nd, o, ?_⟩
      · cases hq : tgSetL ts ds ρ with
        | none => rw [hq] at h; exact h.elim
        | some ρ' => rw [r.length, ← tgSetL_len hq]
      · cases hq : tgSetL ts ds ρ with
        | none => rw [hq] at h; exact h.elim
        | some ρ' => rw [hq] at h; exact fun σ' A' s1 s2 s3 s4 => h σ' A' s1 s2 s3 (by simpa [Tg.slots] using s4)
    | _ => simp only [Tg.set] at h⟩

/-! ### what is walked -/
structure ItOk (G : Gd) (bor : Bool) (J : It) (ds : List D) (Src : Hp → Hp → Prop) : Prop where
  stay : ∀ P H P' H' A, (bor = true → A = []) → Under P H → Ext P H P' H' A → Src P H → Src P' H'
  go : ∀ i P H, Under P H → Src P H → i < ds.length → J.go i H ∧ ∀ x H', J.yld i H x H' → ∃ P' d, Ext P H P' H' [] ∧ ds[i]? = some d ∧ Rel G P' H' x d []
  stop : ∀ i P H, Under P H → Src P H → ds.length ≤ i → J.stop i H
def tI (G : Gd) (W : WX) (bor : Bool) (S : Env → Res (List D)) : TI := fun σ H R => ∃ P ρ A, StRel G P H σ ρ A ∧ match S ρ with
  | .ok ds => ∀ J P' H' Src, ItOk G bor J ds Src → Src P' H' → Ext P H P' H' [] → R J H'
  | .exc x => PostX G P H W σ x
  | .bad => False
structure IOk (X : Cx) (W : WX) (bor : Bool) (tg e : Expr) (S : Env → Res (List D)) : Prop where pi : PI X tg e (tI (gd X) W bor S)
theorem PI.imp {X : Cx} {tg e : Expr} {t t' : TI} (h : PI X tg e t) (f : ∀ σ H R, t' σ H R → t σ H R) : PI X tg e t' := ⟨fun pins s σ H R I q => h.run pins s σ H R I (f σ H R q)⟩
theorem PI.or {X : Cx} {tg e : Expr} {t t' : TI} (h : PI X tg e t) (h' : PI X tg e t') : PI X tg e fun σ H R => t σ H R ∨ t' σ H R := ⟨fun pins s σ H R I q => q.elim (h.run pins s σ H R I) (h'.run pins s σ H R I)⟩
theorem RelL.at? {G : Gd} {P H : Hp} : ∀ {vs : List V} {ds : List D} {i : Nat}, RelL G P H vs ds [] → i < ds.length → ∃ v d, vs[i]? = some v ∧ ds[i]? = some d ∧ Rel G P H v d [] := fun {vs ds i} r h => by
  obtain ⟨v, B, h1, h2, h3⟩ := r.get (List.getElem?_eq_getElem h)
  have e : B = [] := by
    cases B with
    | nil => rfl
    | cons b B => exact absurd (h3 b List.mem_cons_self) (by simp)
  subst e
  exact ⟨v, _, h1, List.getElem?_eq_getElem h, h2⟩
/-- over a list that does not change -/
theorem it_list {G : Gd} {a : Addr} {xs : List V} {ds : List D} : ItOk G false (Itl G.K a) ds fun P H => P a = some (.lst xs) ∧ RelL G P H xs ds [] where
  stay := fun P H P' H' A _ _ e ⟨h, r⟩ => ⟨e.same _ _ h, r.mono e.same (by simp)⟩
  go := fun i P H u ⟨h, r⟩ hi => by
    obtain ⟨v, d, h1, h2, h3⟩ := r.at? hi
    exact ⟨⟨xs, v, u.seqL (SqL.of h), h1⟩, fun x H' hy => by
      obtain ⟨e, y⟩ := hy
      subst e
      have q := y xs (u.seqL (SqL.of h))
      rw [h1] at q
      cases q
      exact ⟨P, d, Ext.refl u, h2, h3⟩⟩
  stop := fun i P H u ⟨h, r⟩ hi => ⟨xs, u.seqL (SqL.of h), by rw [r.length]; exact hi⟩
/-- .. that a name owns -/
theorem it_listB {G : Gd} {a : Addr} {xs : List V} {ds : List D} : ItOk G true (Itl G.K a) ds fun P H => H a = some (.lst xs) ∧ P a = none ∧ RelL G P H xs ds [] where
  stay := fun P H P' H' A hA u e ⟨h, n, r⟩ => by
    obtain rfl := hA rfl
    refine ⟨e.keep _ _ h n (by simp), ?_, r.mono e.same (by simp)⟩
    exact (e.own (A := [a]) (fun b hb => by simp at hb; subst hb; exact ⟨_, h⟩) (fun b hb => by simp at hb; subst hb; exact n)).2 a (by simp)
  go := fun i P H u ⟨h, n, r⟩ hi => by
    obtain ⟨v, d, h1, h2, h3⟩ := r.at? hi
    exact ⟨⟨xs, v, SqL.of h, h1⟩, fun x H' hy => by
      obtain ⟨e, y⟩ := hy
      subst e
      have q := y xs (SqL.of h)
      rw [h1] at q
      cases q
      exact ⟨P, d, Ext.refl u, h2, h3⟩⟩
  stop := fun i P H u ⟨h, n, r⟩ hi => ⟨xs, SqL.of h, by rw [r.length]; exact hi⟩
theorem ItOk.any {G : Gd} {J : It} {ds : List D} {Src : Hp → Hp → Prop} {bor : Bool} (h : ItOk G false J ds Src) : ItOk G bor J ds Src := ⟨fun P H P' H' A _ => h.stay P H P' H' A (fun z => by cases z), h.go, h.stop⟩
theorem it_tup {G : Gd} {a : Addr} {xs : List V} {ds : List D} : ItOk G false (Itt G.K a) ds fun P H => SqT G.K P a xs ∧ RelL G P H xs ds [] where
  stay := fun P H P' H' A _ _ e ⟨h, r⟩ => ⟨Same.sqT e.same h, r.mono e.same (by simp)⟩
  go := fun i P H u ⟨h, r⟩ hi => by
    obtain ⟨v, d, h1, h2, h3⟩ := r.at? hi
    exact ⟨⟨xs, v, u.seqT h, h1⟩, fun x H' hy => by
      obtain ⟨e, y⟩ := hy
      subst e
      have q := y xs (u.seqT h)
      rw [h1] at q
      cases q
      exact ⟨P, d, Ext.refl u, h2, h3⟩⟩
  stop := fun i P H u ⟨h, r⟩ hi => ⟨xs, u.seqT h, by rw [r.length]; exact hi⟩
theorem it_scr {G : Gd} {a : Addr} {ns : List Int} : ItOk G false (Itl G.K a) (ns.map .int) fun P H => SqL G.K P a (ns.map V.int) where
  stay := fun P H P' H' A _ _ e h => Same.seq e.same h
  go := fun i P H u h hi => by
    have r : RelL G P H (ns.map V.int) (ns.map D.int) [] := ints_rel ns
    obtain ⟨v, d, h1, h2, h3⟩ := r.at? hi
    exact ⟨⟨_, v, u.seqL h, h1⟩, fun x H' hy => by
      obtain ⟨e, y⟩ := hy
      subst e
      have q := y _ (u.seqL h)
      rw [h1] at q
      cases q
      exact ⟨P, d, Ext.refl u, h2, h3⟩⟩
  stop := fun i P H u h hi => ⟨_, u.seqL h, by simpa using hi⟩
/-- the items of a list, a tuple, the script -/
def seqD : D → Option (List D)
  | .lst _ ds => if cleanL ds = true then some ds else none
  | .tup ds => if cleanL ds = true then some ds else none
  | .scr ns => some (ns.map .int)
  | _ => none
def sSeq (S : Env → Res D) : Env → Res (List D) := fun ρ => (S ρ).bind fun d => opt (seqD d)
/-- a value that comes now: its items can be walked -/
theorem seq_src {G : Gd} {P H P1 H1 : Hp} {B : List Addr} {d : D} {v : V} {ds : List D} {σ : Sl} {ρ : Env} {A : List Addr} (st : StRel G P H σ ρ A) (e : Ext P H P1 H1 []) (r : Rel G P1 H1 v d B) (f : Fresh P1 H B) (h : seqD d = some ds) :
    (∃ a, v = .ref a ∧ (∃ xs, SqL G.K H1 a xs) ∧ ∃ Src P2, ItOk G false (Itl G.K a) ds Src ∧ Src P2 H1 ∧ Ext P H P2 H1 []) ∨ ∃ a, v = .ref a ∧ (∃ xs, SqT G.K H1 a xs) ∧ ∃ Src P2, ItOk G false (Itt G.K a) ds Src ∧ Src P2 H1 ∧ Ext P H P2 H1 [] := by
  cases r with
  | @tup a xs ds0 A0 q r =>
    simp only [seqD] at h
    split at h
    · rename_i c
      cases h
      exact .inr ⟨a, rfl, ⟨xs, e.und.seqT q⟩, _, P1, it_tup, ⟨q, r.nil_of c⟩, e⟩
    · cases h
  | @lstF a xs ds0 q r =>
    simp only [seqD] at h
    split at h
    · rename_i c
      cases h
      exact .inl ⟨a, rfl, ⟨xs, e.und.seqL (SqL.of q)⟩, _, P1, it_list, ⟨q, r⟩, e⟩
    · cases h
  | @lstO a xs ds0 A0 q r =>
    simp only [seqD] at h
    split at h
    · rename_i c
      cases h
      have r' := r.nil_of c
      have o : ∀ b ∈ [a], P1 b = none := fun b hb => by
        have hb : b = a := by simpa using hb
        subst hb
        exact (f.2 b List.mem_cons_self).2
      have g := give_ext (A := [a]) e.und o
      refine .inl ⟨a, rfl, ⟨xs, SqL.of q⟩, _, give P1 H1 [a], it_list, ⟨by rw [give_in (by simp)]; exact q, r'.mono g.same (by simp)⟩, ?_⟩
      refine ⟨e.same.trans g.same, g.und, e.keep, fun b w q => ?_⟩
      rcases g.new b w q with z | z | z
      · exact e.new b w z
      · exact .inr (.inl (e.free st.und z))
      · have hb : b = a := by simpa using z
        subst hb
        exact .inr (.inl (f.2 b List.mem_cons_self).1)
    · cases h
  | @scr a ns q =>
    simp only [seqD] at h
    cases h
    exact .inl ⟨a, rfl, ⟨_, e.und.seqL q⟩, _, P1, it_scr, q, e⟩
  | _ => simp [seqD] at h
theorem i_seq {bor : Bool} {tg : Expr} (h : EOk X W e S) : IOk X W bor tg e (sSeq S) := ⟨PI.imp (PI.or (pi_list h.pe) (pi_tup h.pe)) fun σ H R ⟨P, ρ, A, st, q⟩ => by
  unfold sSeq at q
  cases hs : S ρ with
  | bad => simp only [hs, Res.bind] at q
  | exc x => exact .inl ⟨P, ρ, A, st, by rw [hs]; simp only [hs, Res.bind] at q; exact q⟩
  | ok d =>
    simp only [hs, Res.bind] at q
    cases hd : seqD d with
    | none => simp only [hd, opt] at q
    | some ds =>
      simp only [hd, opt] at q
      by_cases ht : ∃ es, d = .tup es
      · refine .inr ⟨P, ρ, A, st, ?_⟩
        rw [hs]
        intro v P1 H1 B e1 r f
        rcases seq_src st e1 r f hd with ⟨a, rfl, ⟨xs, hx⟩, Src, P2, it, sr, ex⟩ | ⟨a, rfl, hx, Src, P2, it, sr, ex⟩
        · obtain ⟨es, rfl⟩ := ht
          cases r with
          | @tup a' xs' ds0 A0 q' r' =>
            simp only [seqD] at hd
            split at hd
            · rename_i c
              cases hd
              exact ⟨_, rfl, ⟨_, e1.und.seqT q'⟩, q _ P1 H1 _ it_tup.any ⟨q', r'.nil_of c⟩ e1⟩
            · cases hd
        · exact ⟨a, rfl, hx, q _ P2 H1 Src it.any sr ex⟩
      · refine .inl ⟨P, ρ, A, st, ?_⟩
        rw [hs]
        intro v P1 H1 B e1 r f
        rcases seq_src st e1 r f hd with ⟨a, rfl, hx, Src, P2, it, sr, ex⟩ | ⟨a, rfl, ⟨xs, hx⟩, Src, P2, it, sr, ex⟩
        · exact ⟨a, rfl, hx, q _ P2 H1 Src it.any sr ex⟩
        · cases r with
          | tup _ _ => exact absurd ⟨_, rfl⟩ ht
          | @lstF a' xs' ds0 q' r' =>
            simp only [seqD] at hd
            split at hd
            · rename_i c
              cases hd
              exact ⟨_, rfl, ⟨_, e1.und.seqL (SqL.of q')⟩, q _ P1 H1 _ it_list.any ⟨q', r'⟩ e1⟩
            · cases hd
          | @lstO a' xs' ds0 A0 q' r' =>
            simp only [seqD] at hd
            split at hd
            · rename_i c
              cases hd
              have r2 := r'.nil_of c
              have o : ∀ b ∈ [a], P1 b = none := fun b hb => by
                have hb : b = a := by simpa using hb
                subst hb
                exact (f.2 b List.mem_cons_self).2
              have g := give_ext (A := [a]) e1.und o
              refine ⟨a, rfl, ⟨_, SqL.of q'⟩, q _ (give P1 H1 [a]) H1 _ it_list.any ⟨by rw [give_in (by simp)]; exact q', r2.mono g.same (by simp)⟩ ⟨e1.same.trans g.same, g.und, e1.keep, fun b w q => ?_⟩⟩
              rcases g.new b w q with z | z | z
              · exact e1.new b w z
              · exact .inr (.inl (e1.free st.und z))
              · have hb : b = a := by simpa using z
                subst hb
                exact .inr (.inl (f.2 b List.mem_cons_self).1)
            · cases hd
          | @scr a' ns q' =>
            simp only [seqD] at hd
            cases hd
            exact ⟨_, rfl, ⟨_, e1.und.seqL q'⟩, q _ P1 H1 _ it_scr.any q' e1⟩
          | _ => simp [seqD] at hd⟩
end
end RL

/-! RL: borrowed lists, ranges, enumerate, zip; list comprehensions. -/
namespace RL
open PySem PySem.Spec PyProof.Rows L2
section
variable {X : Cx} {W : WX} {e a b : Expr} {pos : Pos} {Sa Sb S : Env → Res D}
/-- a list that a name owns, walked within an expression -/
theorem i_seqB {tg : Expr} (h : BOk X W e S) : IOk X W true tg e (sSeq S) := ⟨PI.imp (PI.or (pi_list h.pe) (pi_tup h.pe)) fun σ H R ⟨P, ρ, A, st, q⟩ => by
  unfold sSeq at q
  cases hs : S ρ with
  | bad => simp only [hs, Res.bind] at q
  | exc x => exact .inl ⟨P, ρ, A, st, by rw [hs]; simp only [hs, Res.bind] at q; exact q⟩
  | ok d =>
    simp only [hs, Res.bind] at q
    cases hd : seqD d with
    | none => simp only [hd, opt] at q
    | some ds =>
      simp only [hd, opt] at q
      by_cases ht : ∃ es, d = .tup es
      · obtain ⟨es, rfl⟩ := ht
        refine .inr ⟨P, ρ, A, st, ?_⟩
        rw [hs]
        intro v P1 H1 B e1 r f
        cases r with
        | @tup a' xs' ds0 A0 q' r' =>
          simp only [seqD] at hd
          split at hd
          · rename_i c
            cases hd
            exact ⟨_, rfl, ⟨_, e1.und.seqT q'⟩, q _ P1 H1 _ it_tup.any ⟨q', r'.nil_of c⟩ e1⟩
          · cases hd
      · refine .inl ⟨P, ρ, A, st, ?_⟩
        rw [hs]
        intro v P1 H1 B e1 r f
        cases r with
        | tup _ _ => exact absurd ⟨_, rfl⟩ ht
        | @lstF a' xs' ds0 q' r' =>
          simp only [seqD] at hd
          split at hd
          · rename_i c
            cases hd
            exact ⟨_, rfl, ⟨_, e1.und.seqL (SqL.of q')⟩, q _ P1 H1 _ it_list.any ⟨q', r'⟩ e1⟩
          · cases hd
        | @lstO a' xs' ds0 A0 q' r' =>
          simp only [seqD] at hd
          split at hd
          · rename_i c
            cases hd
            exact ⟨_, rfl, ⟨_, SqL.of q'⟩, q _ P1 H1 _ it_listB ⟨q', f _ List.mem_cons_self, r'.nil_of c⟩ e1⟩
          · cases hd
        | @scr a' ns q' =>
          simp only [seqD] at hd
          cases hd
          exact ⟨_, rfl, ⟨_, e1.und.seqL q'⟩, q _ P1 H1 _ it_scr.any q' e1⟩
        | _ => simp [seqD] at hd⟩
/-! ### range -/
def ups (lo : Int) (n : Nat) : List D := (List.range n).map fun (k : Nat) => D.int (lo + (k : Int))
theorem ups_len (lo : Int) (n : Nat) : (ups lo n).length = n := by simp [ups]
theorem it_rng {G : Gd} {lo : Int} {n : Nat} : ItOk G false (Itr lo n) (ups lo n) fun _ _ => True where
  stay := fun _ _ _ _ _ _ _ _ _ => trivial
  go := fun i P H u _ hi => by
    rw [ups_len] at hi
    refine ⟨hi, fun x H' hy => ?_⟩
    obtain ⟨e, y⟩ := hy
    subst e y
    exact ⟨P, .int (lo + i), Ext.refl u, by simp [ups, hi], .int _⟩
  stop := fun i P H u _ hi => by rw [ups_len] at hi; exact hi
def inR (i : Int) : Bool := decide (-(2 ^ 62) ≤ i) && decide (i < 2 ^ 62)
def rng1 : List D → Option (List D)
  | [.int j] => if inR j = true then some (ups 0 j.toNat) else none
  | _ => none
def rng2 : List D → Option (List D)
  | [.int i, .int j] => if inR i = true ∧ inR j = true then some (ups i (j - i).toNat) else none
  | _ => none
def sI (f : List D → Option (List D)) (S : Env → Res (List D)) : Env → Res (List D) := fun ρ => (S ρ).bind fun ds => opt (f ds)
theorem i_rng1 {bor : Bool} {tg : Expr} {p : Pos} {T : Env → Res (List D)} (hm : X.mg "range" = none) (ha : ABOk X W [a] T) (hg : Gl X "range" := by rfl) (hs : starEach [a] X.env = [(false, eval a X.env)] := by rfl) : IOk X W bor tg (.Call (.Name "range" p) [a] [] pos) (sI rng1 T) :=
  ⟨PI.imp (pi_range1 hg hm ha.pa hs) fun σ H R ⟨P, ρ, A, st, h⟩ => ⟨P, ρ, A, st, by
    unfold sI at h
    cases ht : T ρ with
    | bad => simp only [ht, Res.bind] at h
    | exc x => simp only [ht, Res.bind] at h; exact h
    | ok ds =>
      simp only [ht, Res.bind] at h
      intro vs P1 H1 B e1 r o
      cases r with
      | nil => simp [rng1, opt] at h
      | cons r1 r2 =>
        cases r2 with
        | cons _ _ => simp [rng1, opt] at h
        | nil =>
          cases r1 with
          | int j =>
            simp only [rng1] at h
            by_cases c : inR j = true
            · rw [if_pos c] at h
              simp only [inR, Bool.and_eq_true, decide_eq_true_eq] at c
              exact ⟨j, rfl, c.1, c.2, h _ P1 H1 _ it_rng.any trivial e1⟩
            · rw [if_neg c] at h; exact h.elim
          | _ => simp [rng1, opt] at h⟩⟩
theorem i_rng2 {bor : Bool} {tg : Expr} {p : Pos} {T : Env → Res (List D)} (hm : X.mg "range" = none) (ha : ABOk X W [a, b] T) (hg : Gl X "range" := by rfl) (hs : starEach [a, b] X.env = [(false, eval a X.env), (false, eval b X.env)] := by rfl) (hs2 : starEach [b] X.env = [(false, eval b X.env)] := by rfl) :
    IOk X W bor tg (.Call (.Name "range" p) [a, b] [] pos) (sI rng2 T) :=
  ⟨PI.imp (pi_range2 hg hm ha.pa hs hs2) fun σ H R ⟨P, ρ, A, st, h⟩ => ⟨P, ρ, A, st, by
    unfold sI at h
    cases ht : T ρ with
    | bad => simp only [ht, Res.bind] at h
    | exc x => simp only [ht, Res.bind] at h; exact h
    | ok ds =>
      simp only [ht, Res.bind] at h
      intro vs P1 H1 B e1 r o
      cases r with
      | nil => simp [rng2, opt] at h
      | cons r1 r2 =>
        cases r2 with
        | nil => simp [rng2, opt] at h
        | cons r2 r3 =>
          cases r3 with
          | cons _ _ => simp [rng2, opt] at h
          | nil =>
            cases r1 <;> first | exact (show False from h).elim | skip
            cases r2 <;> first | exact (show False from h).elim | skip
            rename_i i j
            simp only [rng2] at h
            by_cases c : inR i = true ∧ inR j = true
            · rw [if_pos c] at h
              simp only [inR, Bool.and_eq_true, decide_eq_true_eq] at c
              exact ⟨i, j, rfl, ⟨c.1.1, c.1.2, c.2.1, c.2.2⟩, h _ P1 H1 _ it_rng.any trivial e1⟩
            · rw [if_neg c] at h; exact h.elim⟩⟩
def upsC (lo c : Int) (n : Nat) : List D := (List.range n).map fun (k : Nat) => D.int (lo + (k : Int) * c)
theorem it_rngC {G : Gd} {lo c : Int} {n : Nat} : ItOk G false (Itc lo c n) (upsC lo c n) fun _ _ => True where
  stay := fun _ _ _ _ _ _ _ _ _ => trivial
  go := fun i P H u _ hi => by
    have hi : i < n := by simpa [upsC] using hi
    refine ⟨hi, fun x H' hy => ?_⟩
    obtain ⟨e, y⟩ := hy
    subst e y
    exact ⟨P, .int (lo + i * c), Ext.refl u, by simp [upsC, hi], .int _⟩
  stop := fun i P H u _ hi => by
    show n ≤ i
    simpa [upsC] using hi
def rng3 : List D → Option (List D)
  | [.int i, .int j, .int c] => if c ≠ 0 ∧ c.natAbs < 1073741824 ∧ Builtin.Range.small i j c = true then some (upsC i c (Builtin.Range.rangeSize i j c).toNat) else none
  | _ => none
theorem rsize_nat {i j c : Int} : Builtin.Range.rangeSize i j c = ((Builtin.Range.rangeSize i j c).toNat : Int) := by
  have h : 0 ≤ Builtin.Range.rangeSize i j c := by
    unfold Builtin.Range.rangeSize
    by_cases hc : c > 0
    · rw [if_pos hc]
      by_cases hl : i < j
      · rw [if_pos hl]
        have h := Int.ediv_nonneg (a := j - i - 1) (b := c) (by omega) (by omega)
        omega
      · rw [if_neg hl]; exact Int.le_refl 0
    · rw [if_neg hc]
      by_cases hl : i > j
      · rw [if_pos hl]
        have h := Int.ediv_nonneg (a := i - j - 1) (b := -c) (by omega) (by omega)
        omega
      · rw [if_neg hl]; exact Int.le_refl 0
  omega
theorem i_rng3 {bor : Bool} {tg c : Expr} {p : Pos} {T : Env → Res (List D)} (hm : X.mg "range" = none) (ha : ABOk X W [a, b, c] T) (hg : Gl X "range" := by rfl)
    (hs : starEach [a, b, c] X.env = (false, eval a X.env) :: starEach [b, c] X.env := by rfl) (hpl : (backTo pos (starEach [b, c] X.env)).any (·.1) = false := by rfl) :
    IOk X W bor tg (.Call (.Name "range" p) [a, b, c] [] pos) (sI rng3 T) :=
  ⟨PI.imp (pi_range3 hg hm ha.pa hs hpl) fun σ H R ⟨P, ρ, A, st, h⟩ => ⟨P, ρ, A, st, by
    unfold sI at h
    cases ht : T ρ with
    | bad => simp only [ht, Res.bind] at h
    | exc x => simp only [ht, Res.bind] at h; exact h
    | ok ds =>
      simp only [ht, Res.bind] at h
      intro vs P1 H1 B e1 r o
      cases r with
      | nil => simp [rng3, opt] at h
      | cons r1 r2 =>
        cases r2 with
        | nil => simp [rng3, opt] at h
        | cons r2 r3 =>
          cases r3 with
          | nil => simp [rng3, opt] at h
          | cons r3 r4 =>
            cases r4 with
            | cons _ _ => simp [rng3, opt] at h
            | nil =>
              cases r1 <;> first | exact (show False from h).elim | skip
              cases r2 <;> first | exact (show False from h).elim | skip
              cases r3 <;> first | exact (show False from h).elim | skip
              rename_i i j c
              simp only [rng3] at h
              by_cases k : c ≠ 0 ∧ c.natAbs < 1073741824 ∧ Builtin.Range.small i j c = true
              · rw [if_pos k] at h
                exact ⟨i, j, c, _, rfl, ⟨k.1, k.2.1, k.2.2, rsize_nat⟩, h _ P1 H1 _ it_rngC.any trivial e1⟩
              · rw [if_neg k] at h; exact h.elim⟩⟩
/-! ### enumerate, zip -/
def lstD : D → Option (List D)
  | .lst _ ds => if cleanL ds = true then some ds else none
  | .scr ns => some (ns.map .int)
  | _ => none
def pairsI : Nat → List D → List D
  | _, [] => []
  | i, d :: ds => .tup [.int (i : Int), d] :: pairsI (i + 1) ds
theorem pairsI_get : ∀ {ds : List D} {k i : Nat} {d : D}, ds[i]? = some d → (pairsI k ds)[i]? = some (.tup [.int ((k + i : Nat) : Int), d])
  | [], _, _, _, h => by simp at h
  | e :: ds, k, 0, d, h => by simp at h; subst h; simp [pairsI]
  | e :: ds, k, i + 1, d, h => by
    have := pairsI_get (ds := ds) (k := k + 1) (i := i) (d := d) (by simpa using h)
    simp only [pairsI, List.getElem?_cons_succ]
    rw [this]
    congr 4
    omega
theorem pairsI_len : ∀ {ds : List D} {k : Nat}, (pairsI k ds).length = ds.length
  | [], _ => rfl
  | _ :: ds, k => by simp [pairsI, pairsI_len (ds := ds)]
/-- a list of ours that stays, by what stands in P -/
def StayL (G : Gd) (P H : Hp) (a : Addr) (xs : List V) (ds : List D) : Prop := SqL G.K P a xs ∧ RelL G P H xs ds []
theorem it_enum {G : Gd} {a : Addr} {xs : List V} {ds : List D} : ItOk G false (Ite G.K a) (pairsI 0 ds) fun P H => StayL G P H a xs ds where
  stay := fun P H P' H' A _ _ e ⟨h, r⟩ => ⟨Same.seq e.same h, r.mono e.same (by simp)⟩
  go := fun i P H u ⟨h, r⟩ hi => by
    rw [pairsI_len] at hi
    obtain ⟨v, d, h1, h2, h3⟩ := r.at? hi
    refine ⟨⟨xs, v, u.seqL h, h1⟩, fun x H' hy => ?_⟩
    obtain ⟨T, w, e1, e2, e3, y⟩ := hy
    subst e1 e3
    have q := y _ (u.seqL h)
    rw [h1] at q
    cases q
    have ex := ext_fix (o := .tup [.int (i : Nat), v]) u e2
    refine ⟨_, _, ex, pairsI_get h2, .tup (SqT.of upd_same) (.cons (A := []) (B := []) ?_ (.cons (A := []) (B := []) (h3.mono ex.same (by simp)) .nil))⟩
    rw [Nat.zero_add]
    exact .int _
  stop := fun i P H u ⟨h, r⟩ hi => ⟨xs, u.seqL h, by rw [r.length, ← pairsI_len (k := 0)]; exact hi⟩
/-- a list that comes now: it stays -/
theorem list_src {G : Gd} {P H P1 H1 : Hp} {B : List Addr} {d : D} {v : V} {ds : List D} (un : Under P H) (e : Ext P H P1 H1 []) (r : Rel G P1 H1 v d B) (f : Fresh P1 H B) (h : lstD d = some ds) :
    ∃ a xs P2, v = .ref a ∧ StayL G P2 H1 a xs ds ∧ Ext P H P2 H1 [] ∧ Same P1 P2 ∧ ∀ b w, P2 b = some w → P1 b = some w ∨ b ∈ B := by
  cases r with
  | @lstF a xs ds0 q r =>
    simp only [lstD] at h
    split at h
    · cases h
      exact ⟨a, xs, P1, rfl, ⟨SqL.of q, r⟩, e, Same.refl _, fun b w q => .inl q⟩
    · cases h
  | @lstO a xs ds0 A0 q r =>
    simp only [lstD] at h
    split at h
    · rename_i c
      cases h
      have r' := r.nil_of c
      have o : ∀ b ∈ [a], P1 b = none := fun b hb => by
        have hb : b = a := by simpa using hb
        subst hb
        exact (f.2 b List.mem_cons_self).2
      have g := give_ext (A := [a]) e.und o
      refine ⟨a, xs, give P1 H1 [a], rfl, ⟨SqL.of (by rw [give_in (by simp)]; exact q), r'.mono g.same (by simp)⟩, ⟨e.same.trans g.same, g.und, e.keep, fun b w q => ?_⟩, g.same, fun b w q => ?_⟩
      · rcases g.new b w q with z | z | z
        · exact e.new b w z
        · exact .inr (.inl (e.free un z))
        · have hb : b = a := by simpa using z
          subst hb
          exact .inr (.inl (f.2 b List.mem_cons_self).1)
      · by_cases hb : b = a
        · subst hb; exact .inr List.mem_cons_self
        · rw [give_out (by simpa using hb)] at q; exact .inl q
    · cases h
  | @scr a ns q =>
    simp only [lstD] at h
    cases h
    exact ⟨a, _, P1, rfl, ⟨q, ints_rel ns⟩, e, Same.refl _, fun b w q => .inl q⟩
  | _ => simp [lstD, opt] at h
def enum1 : List D → Option (List D)
  | [d] => (lstD d).map (pairsI 0)
  | _ => none
theorem i_enum {bor : Bool} {p tpos : Pos} {elts : List Expr} {kk : Nat} {T : Env → Res (List D)} (hm : X.mg "enumerate" = none) (ha : AOk X W [e] T) (hg : Gl X "enumerate" := by rfl) (hs : starEach [e] X.env = [(false, eval e X.env)] := by rfl) :
    IOk X W bor (.Tuple elts kk tpos) (.Call (.Name "enumerate" p) [e] [] pos) (sI enum1 T) :=
  ⟨PI.imp (pi_enum hg hm ha.pa hs) fun σ H R ⟨P, ρ, A, st, h⟩ => ⟨P, ρ, A, st, by
    unfold sI at h
    cases ht : T ρ with
    | bad => simp only [ht, Res.bind] at h
    | exc x => simp only [ht, Res.bind] at h; exact h
    | ok ds =>
      simp only [ht, Res.bind] at h
      intro vs P1 H1 B e1 r f
      cases r with
      | nil => simp [enum1, opt] at h
      | @cons v d A1 vs ds B1 r1 r2 =>
        cases r2 with
        | cons _ _ => simp [enum1, opt] at h
        | nil =>
          simp only [enum1] at h
          cases hl : lstD d with
          | none => simp only [hl, Option.map, opt] at h
          | some es =>
            simp only [hl, Option.map, opt] at h
            rw [List.append_nil] at f
            obtain ⟨a, xs, P2, rfl, sl, ex, _, _⟩ := list_src st.und e1 r1 f hl
            exact ⟨a, xs, rfl, ex.und.seqL sl.1, h _ P2 H1 _ it_enum.any sl ex⟩⟩⟩
def zipD : List D → List D → List D
  | d :: ds, e :: es => .tup [d, e] :: zipD ds es
  | _, _ => []
theorem zipD_get : ∀ {ds es : List D} {i : Nat} {d e : D}, ds[i]? = some d → es[i]? = some e → (zipD ds es)[i]? = some (.tup [d, e])
  | [], _, _, _, _, h, _ => by simp at h
  | _ :: _, [], _, _, _, _, h => by simp at h
  | a :: ds, b :: es, 0, d, e, h, h2 => by simp at h h2; subst h h2; rfl
  | a :: ds, b :: es, i + 1, d, e, h, h2 => by
    simp only [zipD, List.getElem?_cons_succ]
    exact zipD_get (by simpa using h) (by simpa using h2)
theorem zipD_len : ∀ {ds es : List D}, (zipD ds es).length = min ds.length es.length
  | [], _ => by simp [zipD]
  | _ :: _, [] => by simp [zipD]
  | a :: ds, b :: es => by simp only [zipD, List.length_cons, zipD_len (ds := ds) (es := es)]; omega
theorem it_zip {G : Gd} {a b : Addr} {xs ys : List V} {ds es : List D} : ItOk G false (Itz G.K a b) (zipD ds es) fun P H => StayL G P H a xs ds ∧ StayL G P H b ys es where
  stay := fun P H P' H' A _ _ e ⟨⟨h, r⟩, h2, r2⟩ => ⟨⟨Same.seq e.same h, r.mono e.same (by simp)⟩, Same.seq e.same h2, r2.mono e.same (by simp)⟩
  go := fun i P H u ⟨⟨h, r⟩, h', r'⟩ hi => by
    rw [zipD_len] at hi
    obtain ⟨v, d, h1, h2, h3⟩ := r.at? (i := i) (by omega)
    obtain ⟨v', d', h1', h2', h3'⟩ := r'.at? (i := i) (by omega)
    refine ⟨⟨xs, ys, v, v', u.seqL h, u.seqL h', h1, h1'⟩, fun x H' hy => ?_⟩
    obtain ⟨T, w, w', e1, e2, e3, y, y'⟩ := hy
    subst e1 e3
    have q := y _ (u.seqL h)
    rw [h1] at q
    cases q
    have q := y' _ (u.seqL h')
    rw [h1'] at q
    cases q
    have ex := ext_fix (o := .tup [v, v']) u e2
    exact ⟨_, _, ex, zipD_get h2 h2', .tup (SqT.of upd_same) (.cons (A := []) (B := []) (h3.mono ex.same (by simp)) (.cons (A := []) (B := []) (h3'.mono ex.same (by simp)) .nil))⟩
  stop := fun i P H u ⟨⟨h, r⟩, h', r'⟩ hi => by
    rw [zipD_len] at hi
    refine ⟨xs, ys, u.seqL h, u.seqL h', ?_⟩
    rw [r.length, r'.length]
    omega
def zip2 : List D → Option (List D)
  | [d, e] => (lstD d).bind fun ds => (lstD e).map (zipD ds)
  | _ => none
theorem i_zip {bor : Bool} {p tpos : Pos} {elts : List Expr} {kk : Nat} {T : Env → Res (List D)} (hm : X.mg "zip" = none) (ha : AOk X W [a, b] T) (hg : Gl X "zip" := by rfl) (hs : starEach [a, b] X.env = (false, eval a X.env) :: starEach [b] X.env := by rfl) (hpl : (backTo pos (starEach [b] X.env)).any (·.1) = false := by rfl) :
    IOk X W bor (.Tuple elts kk tpos) (.Call (.Name "zip" p) [a, b] [] pos) (sI zip2 T) :=
  ⟨PI.imp (pi_zip hg hm ha.pa hs hpl) fun σ H R ⟨P, ρ, A, st, h⟩ => ⟨P, ρ, A, st, by
    unfold sI at h
    cases ht : T ρ with
    | bad => simp only [ht, Res.bind] at h
    | exc x => simp only [ht, Res.bind] at h; exact h
    | ok ds =>
      simp only [ht, Res.bind] at h
      intro vs P1 H1 B e1 r f
      cases r with
      | nil => simp [zip2, opt] at h
      | @cons v d A1 vs ds B1 r1 r2 =>
        cases r2 with
        | nil => simp [zip2, opt] at h
        | @cons v' d' A2 vs ds B2 r2 r3 =>
          cases r3 with
          | cons _ _ => simp [zip2, opt] at h
          | nil =>
            simp only [zip2] at h
            cases hl : lstD d with
            | none => simp only [hl, Option.bind, opt] at h
            | some es =>
              cases hl' : lstD d' with
              | none => simp only [hl, hl', Option.bind, Option.map, opt] at h
              | some es' =>
                simp only [hl, hl', Option.bind, Option.map, opt] at h
                rw [List.append_nil] at f
                obtain ⟨n1, n2, n3⟩ := List.nodup_append.mp f.1
                obtain ⟨a, xs, P2, rfl, sl, ex, sm, nw⟩ := list_src st.und e1 r1 ⟨n1, fun b hb => f.2 b (List.mem_append_left _ hb)⟩ hl
                have r2' : Rel (gd X) P2 H1 v' d' A2 := r2.mono sm fun _ _ => rfl
                have f2 : Fresh P2 H A2 := ⟨n2, fun b hb => ⟨(f.2 b (List.mem_append_right _ hb)).1, by
                  cases q : P2 b with
                  | none => rfl
                  | some w =>
                    rcases nw b w q with z | z
                    · rw [(f.2 b (List.mem_append_right _ hb)).2] at z; cases z
                    · exact absurd rfl (n3 b z b hb)⟩⟩
                obtain ⟨b, ys, P3, rfl, sl', ex', sm', _⟩ := list_src st.und ex r2' f2 hl'
                have sl2 : StayL (gd X) P3 H1 a xs es := ⟨Same.seq sm' sl.1, sl.2.mono sm' (by simp)⟩
                exact ⟨a, b, xs, ys, rfl, ex'.und.seqL sl2.1, ex'.und.seqL sl'.1, h _ P3 H1 _ it_zip.any ⟨sl2, sl'⟩ ex'⟩⟩⟩
end
end RL

/-! RL: list comprehensions. -/
namespace RL
open PySem PySem.Spec PyProof.Rows L2
def lcRun (f : D → Res (Option D)) : List D → Option (List D)
  | [] => some []
  | d :: ds => match f d with
    | .ok none => lcRun f ds
    | .ok (some e) => (lcRun f ds).map (e :: ·)
    | _ => none
def wipeE (ρ : Env) : List Nat → Env
  | [] => ρ
  | v :: vs => (wipeE ρ vs).set v none
def lcOne (t : Tg) (vs : List Nat) (T : Env → Res Bool) (E : Env → Res D) (ρ : Env) (d : D) : Res (Option D) := match t.set d (wipeE ρ vs) with
  | none => .bad
  | some ρ' => (T ρ').bind fun b => if b = true then (E ρ').bind fun e => .ok (some e) else .ok none
def sLc (Si : Env → Res (List D)) (t : Tg) (vs : List Nat) (T : Env → Res Bool) (E : Env → Res D) : Env → Res D := fun ρ => (Si ρ).bind fun ds => if ds.length ≤ sizeLine then (match lcRun (lcOne t vs T E ρ) ds with
  | some es => .ok (.lst true es)
  | none => .bad) else .bad
abbrev WF : WX := fun _ _ _ _ => False
theorem wipe_none {σ : Sl} {j : Nat} : ∀ {vs : List Nat}, j ∈ vs → j < σ.length → (wipe σ vs)[j]? = some none
  | [], h, _ => by simp at h
  | v :: vs, h, hl => by
    unfold wipe
    by_cases e : v = j
    · subst e
      rw [List.getElem?_set_self (by rw [wipe_length]; exact hl)]
    · rw [List.getElem?_set_ne e]
      exact wipe_none ((List.mem_cons.mp h).resolve_left fun z => e z.symm) hl
theorem wipe_eq {σ σ' : Sl} {vs : List Nat} (hl : σ'.length = σ.length) (h : ∀ j, j ∉ vs → σ'[j]? = σ[j]?) : wipe σ' vs = wipe σ vs := by
  apply List.ext_getElem?
  intro j
  by_cases hj : j ∈ vs
  · by_cases hx : j < σ.length
    · rw [wipe_none hj hx, wipe_none hj (by omega)]
    · rw [List.getElem?_eq_none (by rw [wipe_length]; omega), List.getElem?_eq_none (by rw [wipe_length]; omega)]
  · rw [wipe_out hj, wipe_out hj, h j hj]
section
variable {G : Gd} {P P' H H' : Hp}
theorem EnvRel.wipe {σ : Sl} {ρ : Env} {A : List Addr} (r : EnvRel G P H σ ρ A) : ∀ vs : List Nat, ∃ C, (∀ b ∈ C, b ∈ A) ∧ (A.Nodup → C.Nodup) ∧ EnvRel G P H (wipe σ vs) (wipeE ρ vs) C
  | [] => ⟨A, fun _ h => h, fun h => h, r⟩
  | v :: vs => by
    obtain ⟨C, c1, c2, c3⟩ := EnvRel.wipe r vs
    by_cases hv : v < (wipeE ρ vs).length
    · obtain ⟨B, C', p, q, _⟩ := c3.out hv
      refine ⟨C', fun b hb => c1 b (p.symm.subset (List.mem_append_right _ hb)), fun n => ((p.nodup_iff.mp (c2 n)).sublist (List.sublist_append_right _ _)), ?_⟩
      show EnvRel G P H ((L2.wipe σ vs).set v none) ((wipeE ρ vs).set v none) C'
      exact q.anyAt (by simp [hv])
    · refine ⟨C, c1, c2, ?_⟩
      show EnvRel G P H ((L2.wipe σ vs).set v none) ((wipeE ρ vs).set v none) C
      have hl := c3.length
      rw [List.set_eq_of_length_le (by omega), List.set_eq_of_length_le (by omega)]
      exact c3
theorem StRel.wipe {σ : Sl} {ρ : Env} {A : List Addr} (st : StRel G P H σ ρ A) (vs : List Nat) : ∃ C, StRel G P H (L2.wipe σ vs) (wipeE ρ vs) C := by
  obtain ⟨C, c1, c2, c3⟩ := st.env.wipe vs
  exact ⟨C, st.und, c3, c2 st.nd, fun b hb => st.off b (c1 b hb)⟩
theorem RelL.snoc {v : V} {d : D} {B : List Addr} (r : Rel G P H v d B) : ∀ {xs : List V} {ds : List D} {A : List Addr}, RelL G P H xs ds A → RelL G P H (xs ++ [v]) (ds ++ [d]) (A ++ B)
  | _, _, _, .nil => by
    have q : RelL G P H [v] [d] (B ++ []) := .cons r .nil
    rw [List.append_nil] at q
    exact q
  | _, _, _, .cons (A := A1) (B := B1) r1 t => by
    rw [List.append_assoc]
    exact .cons r1 (RelL.snoc r t)
/-- our own new object is changed -/
theorem Ext.updNew {a : Addr} {o : HO} (e : Ext P H P' H' []) (h : H a = none) (h' : P' a = none) : Ext P H P' (upd H' a o) [] where
  same := e.same
  und := fun b w q => by
    have hb : b ≠ a := fun z => by subst z; rw [h'] at q; cases q
    rw [upd_ne hb]; exact e.und b w q
  keep := fun b w q n m => by rw [upd_ne (ne_of_none q h)]; exact e.keep b w q n m
  new := e.new
end
section
variable {X : Cx} {W : WX}
theorem lc_imp {bor : Bool} {Si : Env → Res (List D)} {t : Tg} {vs : List Nat} {T : Env → Res Bool} {E : Env → Res D} (ht : ∀ i ∈ t.slots, i ∈ vs) {σ : Sl} {H : Hp} {Q : VK} (h : tE (gd X) W (sLc Si t vs T E) σ H Q) :
    tLc (tI (gd X) W bor Si) (tG (gd X) t) (tT (gd X) WF T) (tE (gd X) WF E) vs σ H Q := by
  obtain ⟨P, ρ, A, st, h⟩ := h
  refine ⟨P, ρ, A, st, ?_⟩
  unfold sLc at h
  cases hs : Si ρ with
  | bad => simp only [hs, Res.bind] at h
  | exc x => simp only [hs, Res.bind] at h; exact h
  | ok ds =>
    simp only [hs, Res.bind] at h
    by_cases hz : ds.length ≤ sizeLine
    · rw [if_pos hz] at h
      cases hr : lcRun (lcOne t vs T E ρ) ds with
      | none => rw [hr] at h; exact h.elim
      | some es =>
        rw [hr] at h
        intro J P1 H1 Src it sr e1 Dn hD
        have hP1 : P1 Dn = none := e1.und.free hD
        -- the state at turn i
        let Iv : Nat → Hp → Prop := fun i Hc => i ≤ ds.length ∧ ∃ Pc acc xs rest B, Ext P1 H1 Pc Hc [] ∧ Pc Dn = none ∧ Hc Dn = some (.lst xs) ∧ RelL (gd X) Pc Hc xs acc B ∧ lcRun (lcOne t vs T E ρ) (ds.drop i) = some rest ∧ acc ++ rest = es ∧ xs.length ≤ i ∧ Dn ∉ B ∧ B.Nodup ∧ ∀ b ∈ B, H1 b = none ∧ Pc b = none
        refine ⟨fun i m Hc => m = ds.length - i ∧ Iv i Hc, ⟨ds.length, by simp, Nat.zero_le _, P1, [], [], es, [], ext_own e1.und hD, hP1, upd_same, .nil, by simpa using hr, rfl, Nat.le_refl _, by simp, List.nodup_nil, fun b hb => by simp at hb⟩, ?_⟩
        rintro i m Hc ⟨rfl, hi, Pc, acc, xs, rest, B, ec, pD, hc, rl, hrest, hacc, hxl, nD, ndB, fB⟩
        have sc : Src Pc Hc := it.stay P1 H1 Pc Hc [] (fun _ => rfl) e1.und ec sr
        by_cases hlt : i < ds.length
        · right
          obtain ⟨hgo, hy⟩ := it.go i Pc Hc ec.und sc hlt
          refine ⟨hgo, Iv (i + 1), fun H' q => ⟨ds.length - (i + 1), by omega, rfl, q⟩, fun x H' y => ?_⟩
          obtain ⟨P2, d, e2, hd, rd⟩ := hy x H' y
          have hdrop : ds.drop i = d :: ds.drop (i + 1) := by
            rw [List.drop_eq_getElem_cons hlt]
            congr 1
            rw [List.getElem?_eq_getElem hlt] at hd
            exact Option.some.inj hd
          rw [hdrop] at hrest
          simp only [lcRun] at hrest
          have e12 := ec.trans e1.und e2
          obtain ⟨C, sw⟩ := (st.ext (e1.trans st.und e12)).wipe vs
          have offD : ∀ b ∈ (Dn :: B), ∃ o, Hc b = some o := fun b hb => by
            rcases List.mem_cons.mp hb with rfl | hb
            · exact ⟨_, hc⟩
            · exact rl.at b hb
          have offP : ∀ b ∈ (Dn :: B), Pc b = none := fun b hb => by
            rcases List.mem_cons.mp hb with rfl | hb
            · exact pD
            · exact (fB b hb).2
          -- what of ours stays, whatever comes
          have keep : ∀ {P3 H3 : Hp}, Ext Pc Hc P3 H3 [] → P3 Dn = none ∧ H3 Dn = some (.lst xs) ∧ RelL (gd X) P3 H3 xs acc B ∧ ∀ b ∈ B, H1 b = none ∧ P3 b = none := fun {P3 H3} e => by
            obtain ⟨k1, k2⟩ := e.own offD offP
            refine ⟨k2 _ List.mem_cons_self, by rw [k1 _ List.mem_cons_self]; exact hc, rl.mono e.same fun b hb => k1 b (List.mem_cons_of_mem _ hb), fun b hb => ⟨(fB b hb).1, k2 b (List.mem_cons_of_mem _ hb)⟩⟩
          cases hset : t.set d (wipeE ρ vs) with
          | none =>
            have : lcOne t vs T E ρ d = .bad := by simp only [lcOne, hset]
            rw [this] at hrest
            cases hrest
          | some ρ' =>
            have hone : lcOne t vs T E ρ d = (T ρ').bind fun b => if b = true then (E ρ').bind fun e => .ok (some e) else .ok none := by simp only [lcOne, hset]
            rw [hone] at hrest
            refine ⟨P2, wipeE ρ vs, C, d, [], sw, rd, by simpa using sw.nd, fun b hb => by simp at hb, ?_⟩
            rw [hset]
            intro σ' A' st' sub hlen hfr
            refine ⟨wipe_eq (by rw [hlen, wipe_length]) (fun j hj => by rw [hfr j fun z => hj (ht j z), wipe_out hj]), P2, ρ', A', st', ?_⟩
            cases hT : T ρ' with
            | bad => simp only [hT, Res.bind] at hrest; cases hrest
            | exc x => simp only [hT, Res.bind] at hrest; cases hrest
            | ok k =>
              intro P3 H3 e3
              cases k with
              | false =>
                simp only [hT, Res.bind, Bool.false_eq_true, if_false] at hrest ⊢
                have e13 := e2.trans ec.und e3
                obtain ⟨k1, k2, k3, k4⟩ := keep e13
                exact ⟨hlt, P3, acc, xs, rest, B, ec.trans e1.und e13, k1, k2, k3, hrest, hacc, by omega, nD, ndB, k4⟩
              | true =>
                simp only [hT, Res.bind, if_true] at hrest ⊢
                refine ⟨P3, ρ', A', st'.ext e3, ?_⟩
                cases hE : E ρ' with
                | bad => simp only [hE] at hrest; cases hrest
                | exc x => simp only [hE] at hrest; cases hrest
                | ok y0 =>
                  simp only [hE] at hrest
                  obtain ⟨rest', hr', rfl⟩ : ∃ r, lcRun (lcOne t vs T E ρ) (ds.drop (i + 1)) = some r ∧ rest = y0 :: r := by
                    cases hq : lcRun (lcOne t vs T E ρ) (ds.drop (i + 1)) with
                    | none => rw [hq] at hrest; cases hrest
                    | some r => rw [hq] at hrest; exact ⟨r, rfl, (Option.some.inj hrest).symm⟩
                  intro v P4 H4 B4 e4 r4 f4
                  have e13 := e2.trans ec.und e3
                  have e14 := e13.trans ec.und e4
                  obtain ⟨j1, j2, j3, j4⟩ := keep e13
                  obtain ⟨k1, k2, k3, k4⟩ := keep e14
                  have e1c := ec.trans e1.und e14
                  have dB4 : ∀ b ∈ B4, b ≠ Dn ∧ b ∉ B := fun b hb => by
                    have hn := (f4.2 b hb).1
                    refine ⟨fun z => ?_, fun z => ?_⟩
                    · subst z; rw [j2] at hn; cases hn
                    · obtain ⟨o, ho⟩ := j3.at b z
                      rw [ho] at hn; cases hn
                  refine ⟨xs, k2, by omega, hlt, P4, acc ++ [y0], xs ++ [v], rest', B ++ B4, e1c.updNew hD k1, k1, upd_same, ?_, hr', by rw [← hacc]; simp, by simp; omega, ?_, ?_, ?_⟩
                  · refine (k3.snoc r4).mono (Same.refl _) fun b hb => upd_ne ?_
                    rcases List.mem_append.mp hb with z | z
                    · exact fun w => nD (w ▸ z)
                    · exact (dB4 b z).1
                  · intro z
                    rcases List.mem_append.mp z with z | z
                    · exact nD z
                    · exact (dB4 _ z).1 rfl
                  · exact List.nodup_append.mpr ⟨ndB, f4.1, fun a ha b hb z => (dB4 b hb).2 (z ▸ ha)⟩
                  · intro b hb
                    rcases List.mem_append.mp hb with z | z
                    · exact k4 b z
                    · exact ⟨(ec.trans e1.und e13).free e1.und (f4.2 b z).1, (f4.2 b z).2⟩
        · left
          have e : i = ds.length := by omega
          subst e
          refine ⟨it.stop _ Pc Hc ec.und sc (Nat.le_refl _), ?_⟩
          rw [List.drop_length] at hrest
          have e0 : rest = [] := (Option.some.inj hrest).symm
          subst e0
          rw [List.append_nil] at hacc
          subst hacc
          refine h _ Pc Hc (Dn :: B) (e1.trans st.und ec) (.lstO hc rl) ⟨List.nodup_cons.mpr ⟨nD, ndB⟩, fun b hb => ?_⟩
          rcases List.mem_cons.mp hb with rfl | hb
          · exact ⟨e1.free st.und hD, pD⟩
          · exact ⟨e1.free st.und (fB b hb).1, (fB b hb).2⟩
    · rw [if_neg hz] at h; exact h.elim
structure TsOk (X : Cx) (W : WX) (ifs : List Expr) (T : Env → Res Bool) : Prop where pts : PTs X ifs (tT (gd X) W T)
theorem PTs.imp {X : Cx} {e : List Expr} {t t' : TT} (h : PTs X e t) (f : ∀ σ H Q, t' σ H Q → t σ H Q) : PTs X e t' := ⟨fun pins s σ H Q I q => h.run pins s σ H Q I (f σ H Q q)⟩
def sYes : Env → Res Bool := fun _ => .ok true
theorem ts_nil : TsOk X W [] sYes := ⟨PTs.imp pts_nil fun σ H Q ⟨P, ρ, A, st, h⟩ => h P H (Ext.refl st.und)⟩
theorem ts_one {c : Expr} {T : Env → Res Bool} (h : TOk X W c T) : TsOk X W [c] T := ⟨pts_one h.pt⟩
variable {bor : Bool} {elt tg iter : Expr} {ifs : List Expr} {scope : Scope} {own : List (Str × Nat)} {pos : Pos} {Si : Env → Res (List D)} {t : Tg} {T : Env → Res Bool} {E : Env → Res D}
/-- [elt for tg in iter if ..] -/
theorem e_lc (hc : X.calm = true) (hN : X.N.Nodup) (hi : IOk X W bor tg iter Si) (ok : BlkOk X.N X.env.scope scope own) (ht : ∀ i ∈ t.slots, i ∈ own.map (·.2))
    (hg : ∀ (s : Shared) (H : Hp) (C : Addr) (cl : List (Str × Addr)) (fp : List Addr), GOk (X.blk s H scope (compEnvC scope cl C X.env) fp) tg t) (hT : ∀ (s : Shared) (H : Hp) (C : Addr) (cl : List (Str × Addr)) (fp : List Addr), TsOk (X.blk s H scope (compEnvC scope cl C X.env) fp) WF ifs T)
    (he : ∀ (s : Shared) (H : Hp) (C : Addr) (cl : List (Str × Addr)) (fp : List Addr), EOk (X.blk s H scope (compEnvC scope cl C X.env) fp) WF elt E) (hs : ∀ x, foldedSetIterable iter X.env x = pure x := by intro _; rfl) :
    EOk X W (.ListComp elt [⟨tg, iter, ifs, 0⟩] scope pos) (sLc Si t (own.map (·.2)) T E) :=
  ⟨PE.imp (pe_lc hc hN hi.pi ok (fun s H C cl fp => (hg s H C cl fp).pg) (fun s H C cl fp => (hT s H C cl fp).pts) (fun s H C cl fp => (he s H C cl fp).pe) hs) fun _ _ _ h => lc_imp (bor := bor) ht h⟩
end
end RL

/-! RL: statements. -/
namespace RL
open PySem PySem.Spec PyProof.Rows L2
inductive SRes where
  | nx (ρ : Env) | rt (d : D) (ρ : Env) | bk (ρ : Env) | exc (x : D) (ρ : Env) | bad
/-- from a state to a later one; L: slots that hold the same value -/
structure After (G : Gd) (P H : Hp) (σ : Sl) (A : List Addr) (L : List Nat) (P' H' : Hp) (σ' : Sl) (ρ' : Env) (A' : List Addr) : Prop where
  ext : Ext P H P' H' A
  st : StRel G P' H' σ' ρ' A'
  sub : ∀ b ∈ A', H b = none ∨ b ∈ A
  len : σ'.length = σ.length
  pin : ∀ j ∈ L, σ'[j]? = σ[j]?
def tS (G : Gd) (W : WX) (L : List Nat) (S : Env → SRes) : TS := fun D σ H => ∃ P ρ A, StRel G P H σ ρ A ∧ match S ρ with
  | .nx ρ' => ∀ σ' P' H' A', After G P H σ A L P' H' σ' ρ' A' → D.nx σ' H'
  | .rt d ρ' => ∀ v σ' P' H' A' B, After G P H σ A L P' H' σ' ρ' A' → Rel G P' H' v d B → (B ++ A').Nodup → (∀ b ∈ B, P' b = none ∧ (H b = none ∨ b ∈ A)) → D.rt v H'
  | .bk ρ' => ∀ σ' P' H' A', After G P H σ A L P' H' σ' ρ' A' → D.bk σ' H'
  | .exc x ρ' => ∀ cls dx σ' P' H' A', After G P H σ A L P' H' σ' ρ' A' → XRel G P' cls dx x → W cls dx σ' H'
  | .bad => False
structure SOk (X : Cx) (W : WX) (L : List Nat) (s : Stmt) (S : Env → SRes) : Prop where ps : PS X s (tS (gd X) W L S)
structure SsOk (X : Cx) (W : WX) (L : List Nat) (s : List Stmt) (S : Env → SRes) : Prop where pss : PSs X s (tS (gd X) W L S)
section
variable {G : Gd} {P H P1 H1 P2 H2 : Hp} {A A1 A2 : List Addr} {σ σ1 σ2 : Sl} {ρ1 ρ2 : Env} {L : List Nat}
theorem Ext.gone (e : Ext P H P1 H1 A) (u : Under P H) {b : Addr} (h : H1 b = none) : H b = none ∨ b ∈ A := by
  by_cases hA : b ∈ A
  · exact .inr hA
  · cases q : H b with
    | none => exact .inl rfl
    | some o =>
      cases qp : P b with
      | none => rw [e.keep b o q qp hA] at h; cases h
      | some w =>
        rcases e.und _ _ (e.same _ _ qp) with z | ⟨_, _, _, z⟩
        · rw [h] at z; cases z
        · rw [h] at z; cases z
theorem Ext.transA (u : Under P H) (a : Ext P H P1 H1 A) (b : Ext P1 H1 P2 H2 A1) (s : ∀ b ∈ A1, H b = none ∨ b ∈ A) : Ext P H P2 H2 A where
  same := a.same.trans b.same
  und := b.und
  keep := fun c o h n hc => by
    refine b.keep c o (a.keep c o h n hc) ?_ fun z => ?_
    · cases q : P1 c with
      | none => rfl
      | some w =>
        rcases a.new c w q with z | z | z
        · rw [n] at z; cases z
        · rw [h] at z; cases z
        · exact absurd z hc
    · rcases s c z with z | z
      · rw [h] at z; cases z
      · exact hc z
  new := fun c o h => by
    rcases b.new c o h with z | z | z
    · exact a.new c o z
    · rcases a.gone u z with z | z
      · exact .inr (.inl z)
      · exact .inr (.inr z)
    · rcases s c z with z | z
      · exact .inr (.inl z)
      · exact .inr (.inr z)
theorem Ext.more (e : Ext P H P1 H1 []) : Ext P H P1 H1 A := ⟨e.same, e.und, fun b o h n _ => e.keep b o h n (by simp), fun b o h => by
  rcases e.new b o h with z | z | z
  · exact .inl z
  · exact .inr (.inl z)
  · simp at z⟩
theorem After.refl {ρ : Env} (st : StRel G P H σ ρ A) : After G P H σ A L P H σ ρ A := ⟨Ext.refl st.und, st, fun b h => .inr h, rfl, fun _ _ => rfl⟩
theorem After.pure {ρ : Env} (st : StRel G P H σ ρ A) (e : Ext P H P1 H1 []) : After G P H σ A L P1 H1 σ ρ A := ⟨e.more, st.ext e, fun b h => .inr h, rfl, fun _ _ => rfl⟩
theorem After.trans (u : Under P H) (a : After G P H σ A L P1 H1 σ1 ρ1 A1) (b : After G P1 H1 σ1 A1 L P2 H2 σ2 ρ2 A2) : After G P H σ A L P2 H2 σ2 ρ2 A2 where
  ext := a.ext.transA u b.ext a.sub
  st := b.st
  sub := fun c hc => by
    rcases b.sub c hc with z | z
    · exact a.ext.gone u z
    · exact a.sub c z
  len := b.len.trans a.len
  pin := fun j hj => (b.pin j hj).trans (a.pin j hj)
/-- a new value's addresses, seen from before -/
theorem After.newB (u : Under P H) (a : After G P H σ A L P1 H1 σ1 ρ1 A1) {B : List Addr} (f : ∀ b ∈ B, P2 b = none ∧ (H1 b = none ∨ b ∈ A1)) : ∀ b ∈ B, P2 b = none ∧ (H b = none ∨ b ∈ A) := fun b hb => ⟨(f b hb).1, by
  rcases (f b hb).2 with z | z
  · exact a.ext.gone u z
  · exact a.sub b z⟩
/-- what comes behind, from a state in between -/
theorem tS_from {W : WX} {D : Ends} {S : Env → SRes} {ρ : Env} (u : Under P H) (a : After G P H σ A L P1 H1 σ1 ρ1 A1) (r : SRes) (hr : match r with
      | .nx ρ' => ∀ σ' P' H' A', After G P H σ A L P' H' σ' ρ' A' → D.nx σ' H'
      | .rt d ρ' => ∀ v σ' P' H' A' B, After G P H σ A L P' H' σ' ρ' A' → Rel G P' H' v d B → (B ++ A').Nodup → (∀ b ∈ B, P' b = none ∧ (H b = none ∨ b ∈ A)) → D.rt v H'
      | .bk ρ' => ∀ σ' P' H' A', After G P H σ A L P' H' σ' ρ' A' → D.bk σ' H'
      | .exc x ρ' => ∀ cls dx σ' P' H' A', After G P H σ A L P' H' σ' ρ' A' → XRel G P' cls dx x → W cls dx σ' H'
      | .bad => False) (hs : S ρ1 = r) : tS G W L S D σ1 H1 := by
  refine ⟨P1, ρ1, A1, a.st, ?_⟩
  rw [hs]
  cases r with
  | nx ρ' => exact fun σ' P' H' A' b => hr _ _ _ _ (a.trans u b)
  | rt d ρ' => exact fun v σ' P' H' A' B b q1 q2 q3 => hr v _ _ _ _ B (a.trans u b) q1 q2 (a.newB u q3)
  | bk ρ' => exact fun σ' P' H' A' b => hr _ _ _ _ (a.trans u b)
  | exc x ρ' => exact fun cls dx σ' P' H' A' b q => hr cls dx _ _ _ _ (a.trans u b) q
  | bad => exact hr
/-- an exception of an expression -/
theorem PostX.stmt {W : WX} {x : D} {ρ : Env} (st : StRel G P H σ ρ A) (h : ∀ cls dx σ' P' H' A', After G P H σ A L P' H' σ' ρ A' → XRel G P' cls dx x → W cls dx σ' H') : PostX G P H W σ x := fun cls dx P' H' e r => h cls dx σ P' H' A (.pure st e) r
end
section
variable {X : Cx} {W : WX} {L : List Nat} {pos : Pos} {e c : Expr} {st : Stmt} {rest : List Stmt} {S T : Env → SRes}
def sNext : Env → SRes := fun ρ => .nx ρ
def sThen (S T : Env → SRes) : Env → SRes := fun ρ => match S ρ with
  | .nx ρ' => T ρ'
  | r => r
theorem ss_nil : SsOk X W L [] sNext := ⟨PSs.imp pss_nil fun D σ H ⟨P, ρ, A, st, h⟩ => h σ P H A (.refl st)⟩
theorem ss_cons (h1 : SOk X W L st S) (h2 : SsOk X W L rest T) : SsOk X W L (st :: rest) (sThen S T) := ⟨PSs.imp (pss_cons h1.ps h2.pss) fun D σ H ⟨P, ρ, A, st, h⟩ => ⟨P, ρ, A, st, by
  unfold sThen at h
  cases hs : S ρ with
  | nx ρ1 =>
    simp only [hs] at h
    intro σ1 P1 H1 A1 a
    exact tS_from (ρ := ρ) st.und a (T ρ1) h rfl
  | rt d ρ1 => simp only [hs] at h; exact h
  | bk ρ1 => simp only [hs] at h; exact h
  | exc x ρ1 => simp only [hs] at h; exact h
  | bad => simp only [hs] at h⟩⟩
theorem ss_one (h1 : SOk X W L st S) : SsOk X W L [st] S := ⟨pss_one h1.ps⟩
/-- a name's value is given up: never changed any more -/
def sFrz (i : Nat) (S : Env → SRes) : Env → SRes := fun ρ => match ρ[i]? with
  | some (some d) => S (ρ.set i (some d.frz))
  | _ => .bad
theorem StRel.frz {G : Gd} {P H : Hp} {σ : Sl} {ρ : Env} {A : List Addr} {i : Nat} {d : D} (st : StRel G P H σ ρ A) (h : ρ[i]? = some (some d)) : ∃ P' A', After G P H σ A L P' H σ (ρ.set i (some d.frz)) A' := by
  have hi : i < ρ.length := (List.getElem?_eq_some_iff.mp h).1
  obtain ⟨B, C, p, q, hv⟩ := st.env.out hi
  rcases hv with ⟨d', v, h1, h2, r⟩ | ⟨h1, _⟩
  · rw [h] at h1
    cases h1
    have bA : ∀ b ∈ B, b ∈ A := fun b hb => p.symm.subset (List.mem_append_left _ hb)
    have cA : ∀ b ∈ C, b ∈ A := fun b hb => p.symm.subset (List.mem_append_right _ hb)
    have g := give_ext (A := B) st.und fun b hb => st.off b (bA b hb)
    obtain ⟨n1, n2, n3⟩ := List.nodup_append.mp (p.nodup_iff.mp st.nd)
    have rf : Rel G (give P H B) H v d.frz [] := r.frz g.same fun b hb => give_in hb
    have qc : EnvRel G (give P H B) H σ (ρ.set i none) C := q.mono g.same fun _ _ => rfl
    obtain ⟨A', p', q'⟩ := qc.put (i := i) rf (by simpa using hi) (by simp [hi])
    rw [List.set_set, EnvRel.set_same h2] at q'
    refine ⟨give P H B, A', ⟨g.same, g.und, fun b o x1 x2 _ => x1, fun b o x => (g.new b o x).elim .inl fun z => z.elim (fun z => .inr (.inl z)) fun z => .inr (.inr (bA b z))⟩, ⟨g.und, q', p'.symm.nodup_iff.mp (by simpa using n2), fun b hb => ?_⟩, fun b hb => ?_, rfl, fun _ _ => rfl⟩
    · have hb : b ∈ C := by simpa using p'.subset hb
      rw [give_out fun z => n3 b z b hb rfl]
      exact st.off b (cA b hb)
    · exact .inr (cA b (by simpa using p'.subset hb))
  · rw [h] at h1; cases h1
theorem ss_frz (i : Nat) (h : SsOk X W L rest S) : SsOk X W L rest (sFrz i S) := ⟨PSs.imp h.pss fun D σ H ⟨P, ρ, A, st, h⟩ => by
  unfold sFrz at h
  cases hi : ρ[i]? with
  | none => simp only [hi] at h
  | some o =>
    cases o with
    | none => simp only [hi] at h
    | some d =>
      simp only [hi] at h
      obtain ⟨P', A', a⟩ := st.frz (L := L) hi
      exact tS_from (ρ := ρ) st.und a _ h rfl⟩
/-- target = e -/
def sAsg (t : Tg) (f : Bool) (S : Env → Res D) : Env → SRes := fun ρ => match S ρ with
  | .ok d => match t.set (if f then d.frz else d) ρ with
    | some ρ' => .nx ρ'
    | none => .bad
  | .exc x => .exc x ρ
  | .bad => .bad
theorem asg_imp {t : Tg} {f : Bool} {Se : Env → Res D} (hL : ∀ j ∈ L, j ∉ t.slots) {D : Ends} {σ : Sl} {H : Hp} (h : tS (gd X) W L (sAsg t f Se) D σ H) : tE (gd X) W Se σ H fun x H1 => tG (gd X) t x σ H1 D.nx := by
  obtain ⟨P, ρ, A, st, h⟩ := h
  refine ⟨P, ρ, A, st, ?_⟩
  unfold sAsg at h
  cases hs : Se ρ with
  | bad => simp only [hs] at h
  | exc x => simp only [hs] at h; exact PostX.stmt st h
  | ok d =>
    simp only [hs] at h
    intro v P1 H1 B e1 r fr
    have s1 := st.ext e1
    have nd : (B ++ A).Nodup := List.nodup_append.mpr ⟨fr.1, st.nd, fun x hx y hy z => by
      obtain ⟨o, ho⟩ := st.env.at y hy
      rw [← z, (fr.2 x hx).1] at ho; cases ho⟩
    cases f with
    | false =>
      simp only [Bool.false_eq_true, if_false] at h
      refine ⟨P1, ρ, A, d, B, s1, r, nd, fun b hb => (fr.2 b hb).2, ?_⟩
      cases ht : t.set d ρ with
      | none => simp only [ht] at h
      | some ρ' =>
        simp only [ht] at h
        intro σ' A' st' sub len pin
        refine h σ' P1 H1 A' ⟨e1.more, st', fun b hb => ?_, len, fun j hj => pin j (hL j hj)⟩
        rcases List.mem_append.mp (sub b hb) with z | z
        · exact .inl (fr.2 b z).1
        · exact .inr z
    | true =>
      simp only [if_true] at h
      have g := give_ext (A := B) e1.und fun b hb => (fr.2 b hb).2
      have e2 : Ext P H (give P1 H1 B) H1 [] := ⟨e1.same.trans g.same, g.und, e1.keep, fun b w q => by
        rcases g.new b w q with z | z | z
        · exact e1.new b w z
        · exact .inr (.inl (e1.free st.und z))
        · exact .inr (.inl (fr.2 b z).1)⟩
      refine ⟨give P1 H1 B, ρ, A, d.frz, [], st.ext e2, r.frz g.same fun b hb => give_in hb, by simpa using st.nd, fun b hb => by simp at hb, ?_⟩
      cases ht : t.set d.frz ρ with
      | none => simp only [ht] at h
      | some ρ' =>
        simp only [ht] at h
        intro σ' A' st' sub len pin
        exact h σ' _ H1 A' ⟨e2.more, st', fun b hb => .inr (by simpa using sub b hb), len, fun j hj => pin j (hL j hj)⟩
theorem s_asg {tg : Expr} {t : Tg} {f : Bool} {Se : Env → Res D} (he : EOk X W e Se) (hg : GOk X tg t) (hL : ∀ j ∈ L, j ∉ t.slots := by decide) (hs : swapsWithSole [tg] e pos.line X.env = pure false := by rfl) (hw : swappedStores [tg] e X.env = pure none := by rfl)
    (h1 : (assignEach [tg] X.env).map (·.2) = [assign tg X.env] := by rfl) : SOk X W L (.Assign [tg] e pos) (sAsg t f Se) := ⟨PS.imp (ps_asg he.pe hg.pg hs hw h1) fun D σ H h => asg_imp hL h⟩
/-- name = e -/
theorem s_set (i : Nat) {x : Str} {p : Pos} {f : Bool} {Se : Env → Res D} (hN : X.N.Nodup) (he : EOk X W e Se) (hi : X.N[i]? = some x := by rfl) (hx : Loc X.env.scope x := by first | exact Or.inl rfl | exact Or.inr rfl) (hL : ∀ j ∈ L, j ∉ (Tg.nm i).slots := by decide)
    (hs : swapsWith e (some (.Name x p)) pos.line X.env = pure false := by rfl) (hf : X.fn x = true ∨ X.env.scope.names.lookup x = some .local := by first | exact .inl rfl | exact .inr rfl) : SOk X W L (.Assign [.Name x p] e pos) (sAsg (.nm i) f Se) := ⟨PS.imp (ps_set hN hi hx he.pe hs hf) fun D σ H h => by
  have q := asg_imp hL h
  obtain ⟨P, ρ, A, st, q⟩ := q
  refine ⟨P, ρ, A, st, ?_⟩
  cases hs : Se ρ with
  | bad => simp only [hs] at q
  | exc x => simp only [hs] at q; exact q
  | ok d =>
    simp only [hs] at q
    intro v P1 H1 B e1 r fr
    obtain ⟨P2, ρ2, A2, d2, B2, st2, r2, nd2, o2, h2⟩ := q v P1 H1 B e1 r fr
    simp only [Tg.set] at h2
    by_cases hl : i < ρ2.length
    · rw [if_pos hl] at h2
      obtain ⟨A', st', sub⟩ := st2.store r2 nd2 o2 hl
      refine h2 _ A' st' sub (by simp) fun j hj => ?_
      have hne : i ≠ j := fun e => hj (by simp [Tg.slots, e])
      rw [List.getElem?_set_ne hne]
    · rw [if_neg hl] at h2; exact h2.elim⟩
/-- name = [.. for ..] on one line -/
theorem s_setLc (i : Nat) {x : Str} {p : Pos} {f bor : Bool} {elt tg iter : Expr} {ifs : List Expr} {scope : Scope} {own : List (Str × Nat)} {p2 : Pos} {Si : Env → Res (List D)} {t : Tg} {Tt : Env → Res Bool} {E : Env → Res D} (hc : X.calm = true) (hN : X.N.Nodup) (hi : IOk X W bor tg iter Si)
    (ok : BlkOk X.N X.env.scope scope own) (ht : ∀ i ∈ t.slots, i ∈ own.map (·.2))
    (hg : ∀ (s : Shared) (H : Hp) (C : Addr) (cl : List (Str × Addr)) (fp : List Addr), GOk (X.blk s H scope (compEnvC scope cl C X.env) fp) tg t) (hT : ∀ (s : Shared) (H : Hp) (C : Addr) (cl : List (Str × Addr)) (fp : List Addr), TsOk (X.blk s H scope (compEnvC scope cl C X.env) fp) WF ifs Tt)
    (he : ∀ (s : Shared) (H : Hp) (C : Addr) (cl : List (Str × Addr)) (fp : List Addr), EOk (X.blk s H scope (compEnvC scope cl C X.env) fp) WF elt E)
    (hy : X.N[i]? = some x := by rfl) (hyl : X.env.scope.names.lookup x = some .local := by rfl) (hsw : swapsWith (.ListComp elt [⟨tg, iter, ifs, 0⟩] scope p2) (some (.Name x p)) pos.line X.env = pure true := by exact sw_true rfl rfl rfl (by decide +kernel))
    (hL : ∀ j ∈ L, j ∉ (Tg.nm i).slots := by decide) (hs : ∀ x, foldedSetIterable iter X.env x = pure x := by intro _; rfl) :
    SOk X W L (.Assign [.Name x p] (.ListComp elt [⟨tg, iter, ifs, 0⟩] scope p2) pos) (sAsg (.nm i) f (sLc Si t (own.map (·.2)) Tt E)) :=
  ⟨PS.imp (ps_setLc hc hN hy hyl hsw hi.pi ok (fun s H C cl fp => (hg s H C cl fp).pg) (fun s H C cl fp => (hT s H C cl fp).pts) (fun s H C cl fp => (he s H C cl fp).pe) hs) fun D σ H h => by
    have q := asg_imp hL h
    refine lc_imp (bor := bor) (T := Tt) (E := E) ht ?_
    obtain ⟨P, ρ, A, st, q⟩ := q
    refine ⟨P, ρ, A, st, ?_⟩
    cases hs : sLc Si t (own.map (·.2)) Tt E ρ with
    | bad => simp only [hs] at q
    | exc x => simp only [hs] at q; exact q
    | ok d =>
      simp only [hs] at q
      intro v P1 H1 B e1 r fr
      obtain ⟨P2, ρ2, A2, d2, B2, st2, r2, nd2, o2, h2⟩ := q v P1 H1 B e1 r fr
      simp only [Tg.set] at h2
      by_cases hl : i < ρ2.length
      · rw [if_pos hl] at h2
        obtain ⟨A', st', sub⟩ := st2.store r2 nd2 o2 hl
        refine h2 _ A' st' sub (by simp) fun j hj => ?_
        have hne : i ≠ j := fun e => hj (by simp [Tg.slots, e])
        rw [List.getElem?_set_ne hne]
      · rw [if_neg hl] at h2; exact h2.elim⟩
/-- a, b = x, y -/
def sPar (i j : Nat) (S : Env → Res (List D)) : Env → SRes := fun ρ => match S ρ with
  | .ok [d, e] => match (Tg.tp [.nm i, .nm j]).set (.tup [d, e]) ρ with
    | some ρ' => .nx ρ'
    | none => .bad
  | .exc x => .exc x ρ
  | _ => .bad
theorem s_par (i j : Nat) {x y : Str} {a b : Expr} {px py pt : Pos} {kt k2 : Nat} {pt2 : Pos} {Se : Env → Res (List D)} (hc : X.calm = true) (hN : X.N.Nodup) (ha : AOk X W [a, b] Se) (hij : i ≠ j := by decide) (hi : X.N[i]? = some x := by rfl) (hj : X.N[j]? = some y := by rfl)
    (hx : X.env.scope.names.lookup x = some .local := by rfl) (hy : X.env.scope.names.lookup y = some .local := by rfl) (hL : ∀ l ∈ L, l ≠ i ∧ l ≠ j := by decide)
    (hw : swappedStores [.Tuple [.Name x px, .Name y py] kt pt] (.Tuple [a, b] k2 pt2) X.env = pure (some [x, y]) := by rfl) (hs : swapsWithSole [.Tuple [.Name x px, .Name y py] kt pt] (.Tuple [a, b] k2 pt2) pos.line X.env = pure false := by rfl) :
    SOk X W L (.Assign [.Tuple [.Name x px, .Name y py] kt pt] (.Tuple [a, b] k2 pt2) pos) (sPar i j Se) := ⟨PS.imp (ps_par hc hN hi hj hij hx hy ha.pa hw hs) fun D σ H ⟨P, ρ, A, st, h⟩ => ⟨P, ρ, A, st, by
  unfold sPar at h
  cases hs : Se ρ with
  | bad => simp only [hs] at h
  | exc x => simp only [hs] at h; exact PostX.stmt st h
  | ok ds =>
    simp only [hs] at h
    intro vs P1 H1 B e1 r fr
    cases r with
    | nil => exact h.elim
    | @cons v d B1 vs ds B2 r1 r2 =>
      cases r2 with
      | nil => exact h.elim
      | @cons w d' B2 vs ds B3 r2 r3 =>
        cases r3 with
        | cons _ _ => exact h.elim
        | nil =>
          refine ⟨v, w, rfl, ?_⟩
          rw [List.append_nil] at fr
          simp only [Tg.set, tgSetL] at h
          by_cases hli : i < ρ.length
          · rw [if_pos hli] at h
            simp only [Option.bind, List.length_set] at h
            by_cases hlj : j < ρ.length
            · rw [if_pos hlj] at h
              obtain ⟨n1, n2, n3⟩ := List.nodup_append.mp fr.1
              have dA : ∀ b ∈ B1 ++ B2, ∀ y ∈ A, b ≠ y := fun b hb y hy z => by
                obtain ⟨o, ho⟩ := st.env.at y hy
                rw [← z, (fr.2 b hb).1] at ho; cases ho
              obtain ⟨A1, st1, sub1⟩ := (st.ext e1).store r1 (i := i) (List.nodup_append.mpr ⟨n1, st.nd, fun x hx y hy => dA x (List.mem_append_left _ hx) y hy⟩) (fun b hb => (fr.2 b (List.mem_append_left _ hb)).2) hli
              obtain ⟨A2, st2, sub2⟩ := st1.store r2 (i := j) (List.nodup_append.mpr ⟨n2, st1.nd, fun x hx y hy z => by
                rcases List.mem_append.mp (sub1 y hy) with q | q
                · exact n3 y q x hx z.symm
                · exact dA x (List.mem_append_right _ hx) y q z⟩) (fun b hb => (fr.2 b (List.mem_append_right _ hb)).2) (by simpa using hlj)
              refine h _ P1 H1 A2 ⟨e1.more, st2, fun b hb => ?_, by simp, fun l hl => ?_⟩
              · rcases List.mem_append.mp (sub2 b hb) with q | q
                · exact .inl (fr.2 b (List.mem_append_right _ q)).1
                · rcases List.mem_append.mp (sub1 b q) with q | q
                  · exact .inl (fr.2 b (List.mem_append_left _ q)).1
                  · exact .inr q
              · rw [List.getElem?_set_ne (hL l hl).2.symm, List.getElem?_set_ne (hL l hl).1.symm]
            · rw [if_neg hlj] at h; exact h.elim
          · rw [if_neg hli] at h; exact h.elim⟩⟩
/-- a value dropped -/
def sExpr (S : Env → Res D) : Env → SRes := fun ρ => match S ρ with
  | .ok _ => .nx ρ
  | .exc x => .exc x ρ
  | .bad => .bad
theorem s_expr {Se : Env → Res D} (he : EOk X W e Se) (hs : swapsWith e none pos.line X.env = pure false := by rfl) : SOk X W L (.Expr e pos) (sExpr Se) := ⟨PS.imp (ps_expr he.pe hs) fun D σ H ⟨P, ρ, A, st, h⟩ => ⟨P, ρ, A, st, by
  unfold sExpr at h
  cases hs : Se ρ with
  | bad => simp only [hs] at h
  | exc x => simp only [hs] at h; exact PostX.stmt st h
  | ok d => simp only [hs] at h; exact fun v P1 H1 B e1 r fr => h σ P1 H1 A (.pure st e1)⟩⟩
theorem s_pass : SOk X W L (.Pass pos) sNext := ⟨PS.imp ps_pass fun D σ H ⟨P, ρ, A, st, h⟩ => h σ P H A (.refl st)⟩
def sBreak : Env → SRes := fun ρ => .bk ρ
theorem s_break : SOk X W L (.Break pos) sBreak := ⟨PS.imp ps_break fun D σ H ⟨P, ρ, A, st, h⟩ => h σ P H A (.refl st)⟩
/-- return e -/
def sRet (S : Env → Res D) : Env → SRes := fun ρ => match S ρ with
  | .ok d => .rt d ρ
  | .exc x => .exc x ρ
  | .bad => .bad
theorem s_ret {Se : Env → Res D} (he : EOk X W e Se) : SOk X W L (.Return (some e) pos) (sRet Se) := ⟨PS.imp (ps_ret he.pe) fun D σ H ⟨P, ρ, A, st, h⟩ => ⟨P, ρ, A, st, by
  unfold sRet at h
  cases hs : Se ρ with
  | bad => simp only [hs] at h
  | exc x => simp only [hs] at h; exact PostX.stmt st h
  | ok d =>
    simp only [hs] at h
    exact fun v P1 H1 B e1 r fr => h v σ P1 H1 A B (.pure st e1) r (List.nodup_append.mpr ⟨fr.1, st.nd, fun x hx y hy z => by
      obtain ⟨o, ho⟩ := st.env.at y hy
      rw [← z, (fr.2 x hx).1] at ho; cases ho⟩) fun b hb => ⟨(fr.2 b hb).2, .inl (fr.2 b hb).1⟩⟩⟩
def sRetN : Env → SRes := fun ρ => .rt .non ρ
theorem s_retN : SOk X W L (.Return none pos) sRetN := ⟨PS.imp ps_retN fun D σ H ⟨P, ρ, A, st, h⟩ => h .non σ P H A [] (.refl st) .non (by simpa using st.nd) fun b hb => by simp at hb⟩
/-- return of a name's value: it goes to the caller -/
def sRetV (i : Nat) : Env → SRes := fun ρ => match ρ[i]? with
  | some (some d) => .rt d (ρ.set i none)
  | _ => .bad
theorem s_retV (i : Nat) {x : Str} {p : Pos} (hN : X.N[i]? = some x := by rfl) (hv : Vis X.env.scope x := by first | exact Or.inl rfl | exact Or.inr (Or.inl rfl) | exact Or.inr (Or.inr rfl)) (hd : (x == ("__debug__" : Str)) = false := by decide)
    (hcd : (x == ("__classdict__" : Str)) = false := by decide) : SOk X W L (.Return (some (.Name x p)) pos) (sRetV i) := ⟨PS.imp (ps_ret (pe_var hN hv hd hcd)) fun D σ H ⟨P, ρ, A, st, h⟩ => by
  unfold sRetV at h
  cases hi : ρ[i]? with
  | none => simp only [hi] at h
  | some o =>
    cases o with
    | none => simp only [hi] at h
    | some d =>
      simp only [hi] at h
      have hl : i < ρ.length := (List.getElem?_eq_some_iff.mp hi).1
      obtain ⟨B, C, p, q, hv⟩ := st.env.out hl
      rcases hv with ⟨d', v, h1, h2, r⟩ | ⟨h1, _⟩
      · rw [hi] at h1
        cases h1
        have cA : ∀ b ∈ C, b ∈ A := fun b hb => p.symm.subset (List.mem_append_right _ hb)
        have bA : ∀ b ∈ B, b ∈ A := fun b hb => p.symm.subset (List.mem_append_left _ hb)
        have n := p.nodup_iff.mp st.nd
        exact ⟨v, h2, h v σ P H C B ⟨Ext.refl st.und, ⟨st.und, q, (List.nodup_append.mp n).2.1, fun b hb => st.off b (cA b hb)⟩, fun b hb => .inr (cA b hb), rfl, fun _ _ => rfl⟩ r n fun b hb => ⟨st.off b (bA b hb), .inr (bA b hb)⟩⟩
      · rw [hi] at h1; cases h1⟩
/-- if -/
def sIfS (C : Env → Res Bool) (S T : Env → SRes) : Env → SRes := fun ρ => match C ρ with
  | .ok true => S ρ
  | .ok false => T ρ
  | .exc x => .exc x ρ
  | .bad => .bad
theorem s_if {C : Env → Res Bool} {a b : List Stmt} (hc : TOk X W c C) (ha : SsOk X W L a S) (hb : SsOk X W L b T) : SOk X W L (.If c a b pos) (sIfS C S T) := ⟨PS.imp (ps_if hc.pt ha.pss hb.pss) fun D σ H ⟨P, ρ, A, st, h⟩ => ⟨P, ρ, A, st, by
  unfold sIfS at h
  cases hs : C ρ with
  | bad => simp only [hs] at h
  | exc x => simp only [hs] at h; exact PostX.stmt st h
  | ok k =>
    intro P1 H1 e1
    cases k with
    | true => simp only [hs] at h; rw [if_pos rfl]; exact tS_from (ρ := ρ) st.und (.pure st e1) (S ρ) h rfl
    | false => simp only [hs] at h; rw [if_neg Bool.false_ne_true]; exact tS_from (ρ := ρ) st.und (.pure st e1) (T ρ) h rfl⟩⟩
/-- while -/
def whileRun (C : Env → Res Bool) (S : Env → SRes) : Nat → Env → SRes
  | 0, _ => .bad
  | n + 1, ρ => match C ρ with
    | .ok true => match S ρ with
      | .nx ρ' => whileRun C S n ρ'
      | .bk ρ' => .nx ρ'
      | r => r
    | .ok false => .nx ρ
    | .exc x => .exc x ρ
    | .bad => .bad
theorem s_while (n : Nat) {C : Env → Res Bool} {body : List Stmt} (hp : PassesOwn (model X.prog X.w) X.A X.env X.xe) (hc : TOk X W c C) (hb : SsOk X W L body S) : SOk X W L (.While c body [] pos) (whileRun C S n) := ⟨PS.imp (ps_while hp hc.pt hb.pss) fun D σ H ⟨P, ρ, A, st, h⟩ => by
  refine ⟨fun m σc Hc => ∃ Pc ρc Ac, After (gd X) P H σ A L Pc Hc σc ρc Ac ∧ whileRun C S m ρc = whileRun C S n ρ, ⟨n, P, ρ, A, .refl st, rfl⟩, ?_⟩
  rintro m σc Hc ⟨Pc, ρc, Ac, a, hr⟩
  refine ⟨Pc, ρc, Ac, a.st, ?_⟩
  cases m with
  | zero =>
    rw [← hr] at h
    simp only [whileRun] at h
  | succ m =>
    rw [← hr] at h
    simp only [whileRun] at h
    cases hs : C ρc with
    | bad => simp only [hs] at h
    | exc x => simp only [hs] at h; exact fun cls dx P' H' e1 q => h cls dx σc P' H' Ac (a.trans st.und (.pure a.st e1)) q
    | ok k =>
      intro P1 H1 e1
      have a1 := a.trans st.und (.pure (L := L) a.st e1)
      cases k with
      | false =>
        simp only [hs] at h
        rw [if_neg Bool.false_ne_true]
        exact h σc P1 H1 Ac a1
      | true =>
        simp only [hs] at h
        rw [if_pos rfl]
        refine ⟨fun σ' H' => ∃ P' ρ' A', After (gd X) P H σ A L P' H' σ' ρ' A' ∧ whileRun C S m ρ' = whileRun C S n ρ, fun σ' H' q => ⟨m, Nat.lt_succ_self m, q⟩, P1, ρc, Ac, a1.st, ?_⟩
        cases hS : S ρc with
        | bad => simp only [hS] at h
        | nx ρ' =>
          simp only [hS] at h
          intro σ' P' H' A' b
          refine ⟨P', ρ', A', a1.trans st.und b, ?_⟩
          rw [← hr]
          simp only [whileRun, hs, hS]
        | bk ρ' => simp only [hS] at h; exact fun σ' P' H' A' b => h _ _ _ _ (a1.trans st.und b)
        | rt d ρ' => simp only [hS] at h; exact fun v σ' P' H' A' B b q1 q2 q3 => h v _ _ _ _ B (a1.trans st.und b) q1 q2 (a1.newB st.und q3)
        | exc x ρ' => simp only [hS] at h; exact fun cls dx σ' P' H' A' b q => h cls dx _ _ _ _ (a1.trans st.und b) q⟩
/-- for -/
def forRun (t : Tg) (S : Env → SRes) : List D → Env → SRes
  | [], ρ => .nx ρ
  | d :: ds, ρ => match t.set d ρ with
    | some ρ1 => match S ρ1 with
      | .nx ρ2 => forRun t S ds ρ2
      | .bk ρ2 => .nx ρ2
      | r => r
    | none => .bad
def sFor (Si : Env → Res (List D)) (t : Tg) (S : Env → SRes) : Env → SRes := fun ρ => match Si ρ with
  | .ok ds => forRun t S ds ρ
  | .exc x => .exc x ρ
  | .bad => .bad
theorem s_for {tg iter : Expr} {t : Tg} {Si : Env → Res (List D)} {body : List Stmt} (hp : PassesOwn (model X.prog X.w) X.A X.env X.xe) (hc : X.calm = true) (hi : IOk X W false tg iter Si) (hg : GOk X tg t) (hb : SsOk X W L body S) (hL : ∀ j ∈ L, j ∉ t.slots := by decide)
    (hs : ∀ x, foldedSetIterable iter X.env x = pure x := by intro _; rfl) : SOk X W L (.For tg iter body [] pos) (sFor Si t S) := ⟨PS.imp (ps_for hp hc hi.pi hg.pg hb.pss hs) fun D σ H ⟨P, ρ, A, st, h⟩ => ⟨P, ρ, A, st, by
  unfold sFor at h
  cases hs : Si ρ with
  | bad => simp only [hs] at h
  | exc x => simp only [hs] at h; exact PostX.stmt st h
  | ok ds =>
    simp only [hs] at h
    intro J P0 H0 Src it sr e0
    have a0 : After (gd X) P H σ A L P0 H0 σ ρ A := .pure st e0
    let Iv : Nat → Sl → Hp → Prop := fun i σc Hc => i ≤ ds.length ∧ ∃ Pc ρc Ac, After (gd X) P H σ A L Pc Hc σc ρc Ac ∧ Src Pc Hc ∧ forRun t S (ds.drop i) ρc = forRun t S ds ρ
    refine ⟨fun i m σc Hc => m = ds.length - i ∧ Iv i σc Hc, ⟨ds.length, by simp, Nat.zero_le _, P0, ρ, A, a0, sr, rfl⟩, ?_⟩
    rintro i m σc Hc ⟨rfl, hi, Pc, ρc, Ac, a, sc, hr⟩
    have uc := a.st.und
    by_cases hlt : i < ds.length
    · right
      obtain ⟨hgo, hy⟩ := it.go i Pc Hc uc sc hlt
      refine ⟨hgo, Iv (i + 1), fun σ' H' q => ⟨ds.length - (i + 1), by omega, rfl, q⟩, fun x H' y => ?_⟩
      obtain ⟨P2, d, e2, hd, rd⟩ := hy x H' y
      have hdrop : ds.drop i = d :: ds.drop (i + 1) := by
        rw [List.drop_eq_getElem_cons hlt]
        congr 1
        rw [List.getElem?_eq_getElem hlt] at hd
        exact Option.some.inj hd
      rw [← hr] at h
      rw [hdrop] at h hr
      simp only [forRun] at h
      have a2 := a.trans st.und (.pure (L := L) a.st e2)
      refine ⟨P2, ρc, Ac, d, [], a2.st, rd, by simpa using a2.st.nd, fun b hb => by simp at hb, ?_⟩
      cases ht : t.set d ρc with
      | none => simp only [ht] at h
      | some ρ1 =>
        simp only [ht] at h
        intro σ1 A1 st1 sub len pin
        have a3 : After (gd X) P2 H' σc Ac L P2 H' σ1 ρ1 A1 := ⟨Ext.refl a2.st.und, st1, fun b hb => .inr (by simpa using sub b hb), len, fun j hj => pin j (hL j hj)⟩
        have a4 := a2.trans st.und a3
        refine ⟨P2, ρ1, A1, st1, ?_⟩
        cases hS : S ρ1 with
        | bad => simp only [hS] at h
        | nx ρ2 =>
          simp only [hS] at h
          intro σ' P' H2 A' b
          refine ⟨hlt, P', ρ2, A', a4.trans st.und b, ?_, ?_⟩
          · exact it.stay P2 H' P' H2 A1 (fun z => by cases z) a2.st.und b.ext (it.stay Pc Hc P2 H' [] (fun _ => rfl) uc e2 sc)
          · rw [← hr]
            simp only [forRun, ht, hS]
        | bk ρ2 => simp only [hS] at h; exact fun σ' P' H2 A' b => h _ _ _ _ (a4.trans st.und b)
        | rt dv ρ2 => simp only [hS] at h; exact fun v σ' P' H2 A' B b q1 q2 q3 => h v _ _ _ _ B (a4.trans st.und b) q1 q2 (a4.newB st.und q3)
        | exc x ρ2 => simp only [hS] at h; exact fun cls dx σ' P' H2 A' b q => h cls dx _ _ _ _ (a4.trans st.und b) q
    · left
      have e : i = ds.length := by omega
      subst e
      refine ⟨it.stop _ Pc Hc uc sc (Nat.le_refl _), ?_⟩
      rw [← hr, List.drop_length] at h
      exact h σc Pc Hc Ac a⟩⟩
end
end RL

/-! RL: defs, what they promise, their calls. -/
namespace RL
open PySem PySem.Spec PyProof.Rows L2
/-- room for calls, and no representation under way -/
structure GRoom (k : Nat) (A : Around) : Prop where
  r : Room k A
  g : A.guards = some []
theorem GRoom.mono {j k : Nat} {A : Around} (h : GRoom k A) (l : j ≤ k) : GRoom j A := ⟨h.r.mono l, h.g⟩
/-- a def keeps a promise wherever there is room -/
structure FnG (P : Program) (w : World) (K : PySem.W.Frag) (mg : Str → Option Value) (base : Heap) (k : Nat) (f : Addr) (fd : FuncData) (ps : List Str) (sp : Sp) : Prop where
  len : ∀ vs H Q E, sp vs H Q E → vs.length = ps.length
  run : ∀ (A : Around) (outer : List PySem.Env) (s : Shared) (H : Hp) (args : Args) (us : List Value) (vs : List V) (Q : VK) (E : XK), GRoom k A → Env0 P w K mg base A outer s H →
    BindsTo s fd args (ps.zip us) → Vals vs us → sp vs H Q E → codeAny (model P w) A (.call (.ref f) args) (CR (L2.CX P w) outer P w H s Q E) s
theorem FnG.mono {P : Program} {w : World} {K : PySem.W.Frag} {mg : Str → Option Value} {base : Heap} {j k : Nat} {f : Addr} {fd : FuncData} {ps : List Str} {sp : Sp} (F : FnG P w K mg base j f fd ps sp) (h : j ≤ k) : FnG P w K mg base k f fd ps sp :=
  ⟨F.len, fun A outer s H args us vs Q E hr => F.run A outer s H args us vs Q E (hr.mono h)⟩
section
variable {P : Program} {w : World} {K : PySem.W.Frag} {mg : Str → Option Value} {base : Heap}
/-- a def of the text keeps its promise if its body does -/
theorem fnG_of {k : Nat} {x qual : Str} {st : Stmt} {f : Addr} {fd : FuncData} {N ps : List Str} {sp : Sp} (F : Fun K x qual st f fd) (S : FnScope N ps (defScope st)) (len : ∀ vs H Q E, sp vs H Q E → vs.length = ps.length)
    (body : ∀ (cdv : Value) (A : Around) (outer : List PySem.Env) (s : Shared) (H : Hp) (vs : List V) (Q : VK) (E : XK), GRoom k (cxOf (L2.CX P w) P w K mg base N qual (defScope st) f cdv A outer s H E).A → sp vs H Q E →
      ∃ t, PSs (cxOf (L2.CX P w) P w K mg base N qual (defScope st) f cdv A outer s H E) (defBody st) t ∧ t { nx := fun _ H' => Q .non H', rt := Q } (L2.start N vs) H) : FnG P w K mg base (k + 1) f fd ps sp := by
  obtain ⟨oc, od, kV, doc, pm, an, cdv, ct, osl, e, look, isCode⟩ := F.ex
  subst e
  constructor
  · exact len
  intro A outer s H args us vs Q E room env binds rel prom
  have lens : vs.length = ps.length := len vs H Q E prom
  have there : ∀ b o, base.get? b = some o → s.heap.get? b = some o := fun b o q => (env.bs b o q).1
  have kin : K.In s.heap := env.mod.kin.keeps there
  have kinds : ∀ y ∈ ps.zip us, (defScope st).names.lookup y.1 = some .local ∨ ((defScope st).names.lookup y.1 = some .cell ∧ ((cellsFrom (s.heap.objs.size + 1) (defScope st).names []).lookup y.1).isSome = true) := by
    intro y hy
    have hy1 : y.1 ∈ ps := (List.of_mem_zip (a := y.1) (b := y.2) hy).1
    cases S.par y.1 hy1 with
    | inl q => exact Or.inl q
    | inr q => exact Or.inr ⟨q, PySem.W.cellsFrom_some _ _ _ (Or.inl q)⟩
  apply codeAny_call_function room.r.depth (kin _ _ look) rfl S.co S.gen rfl (PySem.W.codeRec_of kin isCode)
  apply binds
  apply wpAny_newFunctionEnv_cells S.kind kinds
  intro env1 henv s1 inCall
  subst henv
  constructor
  · exact (env.mod.nolimit.keeps there).keeps inCall.toInCall.keep
  apply codeAny_func
  obtain ⟨t, ht, q⟩ := body cdv A outer s H vs Q E ⟨room.r.deeper _, room.g⟩ prom
  have I := inv_start (CX := L2.CX P w) (E := E) (base := base) (K := K) (mg := mg) (w := w) S room.r.hd env lens rel inCall
  apply wpAny_mono (ht.run [] s1 (L2.start N vs) H _ I q)
  · intro fl s' h
    cases fl with
    | ret u =>
      obtain ⟨v, σ', H', J, rv, q'⟩ := h
      exact ⟨v, H', J.os, J.bare, J.base, J.hok, rv, q'⟩
    | next =>
      obtain ⟨σ', H', J, q'⟩ := h
      exact ⟨.non, H', J.os, J.bare, J.base, J.hok, rfl, q'⟩
    | brk =>
      obtain ⟨_, _, _, q'⟩ := h
      exact q'.elim
    | cont =>
      obtain ⟨_, _, _, q'⟩ := h
      exact q'.elim
  · intro u s' h
    exact h
end

/-! ### pure promises -/
inductive FR where
  | ok (d : D) (outs : List D) | exc (x : D) (outs : List D) | bad
def pick {α : Type} (L : List Nat) (vs : List α) : List α := L.filterMap fun i => vs[i]?
/-- the arguments are ds; the answer is what φ says; L: the places of the arguments that may be changed -/
def spF (G : Gd) (n : Nat) (L : List Nat) (φ : List D → FR) : Sp := fun vs H Q E => vs.length = n ∧ ∃ P ds A, Under P H ∧ RelL G P H vs ds A ∧ A.Nodup ∧ (∀ b ∈ A, P b = none) ∧ match φ ds with
  | .ok d outs => ∀ v P' H' B C, Ext P H P' H' A → Rel G P' H' v d B → RelL G P' H' (pick L vs) outs C → (B ++ C).Nodup → (∀ b ∈ B ++ C, P' b = none ∧ (H b = none ∨ b ∈ A)) → Q v H'
  | .exc x outs => ∀ cls dx P' H' C, Ext P H P' H' A → XRel G P' cls dx x → RelL G P' H' (pick L vs) outs C → C.Nodup → (∀ b ∈ C, P' b = none ∧ (H b = none ∨ b ∈ A)) → E cls dx H'
  | .bad => False
def outsOf (L : List Nat) (ρ : Env) : Option (List D) := L.mapM fun i => (ρ[i]?).bind id
def entry (n : Nat) (ds : List D) : Env := ds.map some ++ List.replicate (n - ds.length) none
/-- what a body comes to -/
def runDef (n : Nat) (L : List Nat) (S : Env → SRes) : List D → FR := fun ds => match S (entry n ds) with
  | .nx ρ => match outsOf L ρ with
    | some os => .ok .non os
    | none => .bad
  | .rt d ρ => match outsOf L ρ with
    | some os => .ok d os
    | none => .bad
  | .exc x ρ => match outsOf L ρ with
    | some os => .exc x os
    | none => .bad
  | _ => .bad
section
variable {G : Gd} {P H : Hp}
theorem RelL.entry : ∀ {vs : List V} {ds : List D} {A : List Addr} (m : Nat), RelL G P H vs ds A → EnvRel G P H (vs.map some ++ List.replicate m none) (ds.map some ++ List.replicate m none) A
  | _, _, _, m, .nil => by
    simp only [List.map_nil, List.nil_append]
    induction m with
    | zero => exact .nil
    | succ m ih => exact .no ih
  | _, _, _, m, .cons r t => .val r (RelL.entry m t)
/-- some slots' values together -/
theorem EnvRel.picks : ∀ {L : List Nat} {σ : Sl} {ρ : Env} {A : List Addr} {os : List D}, EnvRel G P H σ ρ A → L.Nodup → outsOf L ρ = some os → ∃ vs C R, A.Perm (C ++ R) ∧ RelL G P H vs os C ∧ (L.map fun i => σ[i]?) = vs.map fun v => some (some v)
  | [], σ, ρ, A, os, e, _, h => by
    have h' : os = [] := by simpa [outsOf] using h.symm
    subst h'
    exact ⟨[], [], A, .refl _, .nil, rfl⟩
  | i :: L, σ, ρ, A, os, e, nd, h => by
    obtain ⟨n1, n2⟩ := List.nodup_cons.mp nd
    simp only [outsOf, List.mapM_cons] at h
    cases hi : (ρ[i]?).bind id with
    | none => rw [hi] at h; cases h
    | some d =>
      rw [hi] at h
      cases hr : L.mapM fun i => (ρ[i]?).bind id with
      | none =>
        have h2 : (L.mapM fun i => (ρ[i]?).bind id).bind (fun bs => some (d :: bs)) = some os := h
        rw [hr] at h2; cases h2
      | some os' =>
        have h2 : (L.mapM fun i => (ρ[i]?).bind id).bind (fun bs => some (d :: bs)) = some os := h
        rw [hr] at h2
        obtain rfl : d :: os' = os := Option.some.inj h2
        have hρ : ρ[i]? = some (some d) := by
          cases q : ρ[i]? with
          | none => rw [q] at hi; cases hi
          | some o =>
            rw [q] at hi
            have : o = some d := hi
            rw [this]
        have hl : i < ρ.length := (List.getElem?_eq_some_iff.mp hρ).1
        obtain ⟨B, C, p, q, hv⟩ := e.out hl
        rcases hv with ⟨d', v, h1, h2', r⟩ | ⟨h1, _⟩
        · rw [hρ] at h1
          cases h1
          have hq : outsOf L (ρ.set i none) = some os' := by
            have e0 : ∀ (M : List Nat), i ∉ M → M.mapM (fun j => ((ρ.set i none)[j]?).bind id) = M.mapM fun j => (ρ[j]?).bind id := by
              intro M
              induction M with
              | nil => intro _; rfl
              | cons m M ih =>
                intro hm
                simp only [List.mem_cons, not_or] at hm
                rw [List.mapM_cons, List.mapM_cons, ih hm.2, List.getElem?_set_ne hm.1]
            unfold outsOf
            rw [e0 L n1, hr]
          obtain ⟨vs, C', R, p', r', g⟩ := q.picks n2 hq
          refine ⟨v :: vs, B ++ C', R, ?_, .cons r r', ?_⟩
          · refine p.trans ?_
            rw [List.append_assoc]
            exact p'.append_left B
          · simp only [List.map_cons, h2', g]
        · rw [hρ] at h1; cases h1
end
section
variable {P : Program} {w : World} {K : PySem.W.Frag} {mg : Str → Option Value} {base : Heap}
theorem pick_of {L : List Nat} {σ' : Sl} {vs xs : List V} {n : Nat} (h : (L.map fun i => σ'[i]?) = xs.map fun v => some (some v)) (pin : ∀ j ∈ L, σ'[j]? = (vs.map some ++ List.replicate n none)[j]?) : pick L vs = xs := by
  induction L generalizing xs with
  | nil =>
    cases xs with
    | nil => rfl
    | cons _ _ => cases h
  | cons i L ih =>
    cases xs with
    | nil => cases h
    | cons x xs =>
      simp only [List.map_cons, List.cons.injEq] at h
      have hi := pin i List.mem_cons_self
      rw [h.1] at hi
      have hlt : i < vs.length := by
        by_cases hlt : i < vs.length
        · exact hlt
        · rw [List.getElem?_append_right (by simpa using hlt), List.getElem?_replicate] at hi
          split at hi <;> cases hi
      rw [List.getElem?_append_left (by simpa using hlt), List.getElem?_map] at hi
      have hv : vs[i]? = some x := by
        cases q : vs[i]? with
        | none => rw [q] at hi; cases hi
        | some y => rw [q] at hi; cases hi; rfl
      have r := ih (xs := xs) h.2 fun j hj => pin j (List.mem_cons_of_mem _ hj)
      unfold pick at r ⊢
      rw [List.filterMap_cons, hv, r]
/-- THE RULE of a def: its body's meaning is S -/
theorem fn_ok {k : Nat} {x qual : Str} {st : Stmt} {f : Addr} {fd : FuncData} {N ps : List Str} {S : Env → SRes} {L : List Nat} (F : Fun K x qual st f fd) (Sc : FnScope N ps (defScope st)) (hL : L.Nodup)
    (body : ∀ (X : Cx) (W : WX) (cdv : Value) (A : Around) (outer : List PySem.Env) (s : Shared) (H : Hp) (E : XK), X = cxOf (L2.CX P w) P w K mg base N qual (defScope st) f cdv A outer s H E → GRoom k X.A → Takes X W → PassesOwn (model X.prog X.w) X.A X.env X.xe → SsOk X W L (defBody st) S) :
    FnG P w K mg base (k + 1) f fd ps (spF ⟨K, mg⟩ ps.length L (runDef N.length L S)) := by
  refine fnG_of F Sc (fun vs H Q E h => h.1) fun cdv A outer s H vs Q E hr h => ?_
  have tk := takes_of (X := cxOf (L2.CX P w) P w K mg base N qual (defScope st) f cdv A outer s H E) (E := E) rfl rfl rfl rfl
  have hp := passes_of (X := cxOf (L2.CX P w) P w K mg base N qual (defScope st) f cdv A outer s H E) rfl
  have B := body _ _ cdv A outer s H E rfl hr tk hp
  refine ⟨_, B.pss, ?_⟩
  obtain ⟨hlen, Pg, ds, As, un, rl, nd, off, h⟩ := h
  have hds : ds.length = vs.length := rl.length.symm
  have er := rl.entry (N.length - vs.length)
  refine ⟨Pg, entry N.length ds, As, ⟨un, by unfold entry L2.start; rw [hds]; exact er, nd, off⟩, ?_⟩
  unfold runDef at h
  cases hS : S (entry N.length ds) with
  | bad => rw [hS] at h; exact h.elim
  | bk ρ => rw [hS] at h; exact h.elim
  | nx ρ =>
    rw [hS] at h
    cases ho : outsOf L ρ with
    | none => simp only [ho] at h
    | some os =>
      simp only [ho] at h
      intro σ' P' H' A' a
      obtain ⟨xs, C, R, p, r, g⟩ := a.st.env.picks hL ho
      have e := pick_of g a.pin
      have cA : ∀ b ∈ C, b ∈ A' := fun b hb => p.symm.subset (List.mem_append_left _ hb)
      exact h .non P' H' [] C a.ext .non (e ▸ r) (by simpa using (List.nodup_append.mp (p.nodup_iff.mp a.st.nd)).1) fun b hb => ⟨a.st.off b (cA b (by simpa using hb)), a.sub b (cA b (by simpa using hb))⟩
  | rt d ρ =>
    rw [hS] at h
    cases ho : outsOf L ρ with
    | none => simp only [ho] at h
    | some os =>
      simp only [ho] at h
      intro v σ' P' H' A' B a rv ndB fB
      obtain ⟨xs, C, R, p, r, g⟩ := a.st.env.picks hL ho
      have e := pick_of g a.pin
      have cA : ∀ b ∈ C, b ∈ A' := fun b hb => p.symm.subset (List.mem_append_left _ hb)
      obtain ⟨m1, m2, m3⟩ := List.nodup_append.mp ndB
      refine h v P' H' B C a.ext rv (e ▸ r) (List.nodup_append.mpr ⟨m1, (List.nodup_append.mp (p.nodup_iff.mp a.st.nd)).1, fun x hx y hy => m3 x hx y (cA y hy)⟩) fun b hb => ?_
      rcases List.mem_append.mp hb with z | z
      · exact fB b z
      · exact ⟨a.st.off b (cA b z), a.sub b (cA b z)⟩
  | exc x ρ =>
    rw [hS] at h
    cases ho : outsOf L ρ with
    | none => simp only [ho] at h
    | some os =>
      simp only [ho] at h
      intro cls dx σ' P' H' A' a xr
      obtain ⟨xs, C, R, p, r, g⟩ := a.st.env.picks hL ho
      have e := pick_of g a.pin
      have cA : ∀ b ∈ C, b ∈ A' := fun b hb => p.symm.subset (List.mem_append_left _ hb)
      exact h cls dx P' H' C a.ext xr (e ▸ r) (List.nodup_append.mp (p.nodup_iff.mp a.st.nd)).1 fun b hb => ⟨a.st.off b (cA b hb), a.sub b (cA b hb)⟩
end

/-! ### calls -/
section
variable {X : Cx} {W : WX} {k : Nat} {f : Addr} {fd : FuncData} {ps : List Str} {sp : Sp} {x : Str} {p pos : Pos} {e : Expr} {es : List Expr}
/-- the callee runs; what it lets out is wished for here -/
theorem run_fnG {pins : List (Addr × Obj)} {σ : Sl} {H : Hp} {s : Shared} {Q : VK} {us : List Value} {vs : List V} (F : FnG X.prog X.w X.K X.mg X.base k f fd ps sp) (hr : GRoom k X.A) (hb : Binds X.K fd ps []) (tk : Takes X W)
    (I : Inv X pins σ H s) (r : Vals vs us) (h : sp vs H Q fun cls d H' => W cls d σ H') : wpAny (model X.prog X.w) X.A (call (.ref f) us) (EP X pins σ Q) X.xe s := by
  have lens := F.len _ _ _ _ h
  have bt := hb s us I.kIn (by rw [List.append_nil, ← r.length]; exact lens)
  rw [List.append_nil] at bt
  apply wpAny_call
  apply codeAny_mono (F.run X.A X.stack s H ⟨us, []⟩ us vs Q _ hr I.env0 bt r h)
  intro res s' q
  cases res with
  | error u => exact tk u s' (XE.of_call I (fun _ _ _ z => z) q)
  | ok fl =>
    cases fl with
    | ret u => exact I.after q
    | next => exact q.elim
    | brk => exact q.elim
    | cont => exact q.elim
/-- a call of a def, all it is given never changed any more -/
def sCallF (n : Nat) (φ : List D → FR) (S : Env → Res (List D)) : Env → Res D := fun ρ => (S ρ).bind fun ds => if ds.length = n then (match φ (frzL ds) with
  | .ok d _ => .ok d
  | .exc x _ => .exc x
  | .bad => .bad) else .bad
theorem give_ext0 {P H P1 H1 : Hp} {B : List Addr} (u : Under P H) (e : Ext P H P1 H1 []) (f : Fresh P1 H B) : Ext P H (give P1 H1 B) H1 [] ∧ Same P1 (give P1 H1 B) := by
  have g := give_ext (A := B) e.und fun b hb => (f.2 b hb).2
  refine ⟨⟨e.same.trans g.same, g.und, e.keep, fun b w q => ?_⟩, g.same⟩
  rcases g.new b w q with z | z | z
  · exact e.new b w z
  · exact .inr (.inl (e.free u z))
  · exact .inr (.inl (f.2 b z).1)
/-- the promise at frozen arguments -/
theorem spF_of {G : Gd} {φ : List D → FR} {n : Nat} {P H P1 H1 : Hp} {vs : List V} {ds : List D} {B : List Addr} {Q : VK} {E : XK} {W : WX} {σ : Sl} (u : Under P H) (e : Ext P H P1 H1 []) (r : RelL G P1 H1 vs ds B) (f : Fresh P1 H B) (hn : vs.length = n)
    (h : match φ (frzL ds) with
      | .ok d _ => Post G P H Q d
      | .exc x _ => PostX G P H W σ x
      | .bad => False) (hE : ∀ cls d H', W cls d σ H' → E cls d H') : spF G n [] φ vs H1 Q E := by
  obtain ⟨e2, sm⟩ := give_ext0 u e f
  refine ⟨hn, give P1 H1 B, frzL ds, [], e2.und, r.frz sm fun b hb => give_in hb, List.nodup_nil, fun b hb => by simp at hb, ?_⟩
  cases hφ : φ (frzL ds) with
  | bad => rw [hφ] at h; exact h.elim
  | ok d os =>
    rw [hφ] at h
    intro v P' H' B' C e3 rv rc nd fr
    refine h v P' H' B' (e2.trans u e3) rv ⟨(List.nodup_append.mp nd).1, fun b hb => ?_⟩
    obtain ⟨q1, q2⟩ := fr b (List.mem_append_left _ hb)
    rcases q2 with z | z
    · exact ⟨e2.free u z, q1⟩
    · simp at z
  | exc x os =>
    rw [hφ] at h
    intro cls dx P' H' C e3 xr rc nd fr
    exact hE _ _ _ (h cls dx P' H' (e2.trans u e3) xr)
theorem callF_post {n : Nat} {φ : List D → FR} {S : Env → Res (List D)} {P H : Hp} {ρ : Env} {Q : VK} {σ : Sl} {ds : List D} (hs : S ρ = .ok ds) (h : match sCallF n φ S ρ with
      | .ok d => Post (gd X) P H Q d
      | .exc x => PostX (gd X) P H W σ x
      | .bad => False) : ds.length = n ∧ match φ (frzL ds) with
      | .ok d _ => Post (gd X) P H Q d
      | .exc x _ => PostX (gd X) P H W σ x
      | .bad => False := by
  unfold sCallF at h
  simp only [hs, Res.bind] at h
  by_cases hn : ds.length = n
  · rw [if_pos hn] at h
    refine ⟨hn, ?_⟩
    cases hφ : φ (frzL ds) <;> simp only [hφ] at h <;> exact h
  · rw [if_neg hn] at h; exact h.elim
theorem RelL.len2 {G : Gd} {P H : Hp} {vs : List V} {ds : List D} {A : List Addr} (r : RelL G P H vs ds A) : ds.length = vs.length := r.length.symm
/-- f(e, ..) -/
theorem e_call {φ : List D → FR} {S : Env → Res (List D)} (F : FnG X.prog X.w X.K X.mg X.base k f fd ps (spF (gd X) ps.length [] φ)) (hr : GRoom k X.A) (hm : X.mg x = some (.ref f)) (hk : PySem.W.keepIn X.K (.ref f) = true) (hb : Binds X.K fd ps []) (tk : Takes X W)
    (ha : AOk X W (e :: es) S) (hg : Gl X x := by rfl) (hdb : (x == ("__debug__" : Str)) = false := by decide) (he : starEach (e :: es) X.env = (false, eval e X.env) :: starEach es X.env := by rfl) (hpl : (backTo pos (starEach es X.env)).any (·.1) = false := by rfl) :
    EOk X W (.Call (.Name x p) (e :: es) [] pos) (sCallF ps.length φ S) := ⟨⟨fun pins s σ H Q I ⟨P, ρ, A, st, h⟩ => by
  have ht : tL (gd X) W S σ H fun vs H1 => spF (gd X) ps.length [] φ vs H1 Q fun cls d H' => W cls d σ H' := by
    refine ⟨P, ρ, A, st, ?_⟩
    cases hs : S ρ with
    | bad => simp only [sCallF, hs, Res.bind] at h
    | exc z => simp only [sCallF, hs, Res.bind] at h; exact h
    | ok ds =>
      obtain ⟨hn, h'⟩ := callF_post hs h
      exact fun vs P1 H1 B e1 r f => spF_of st.und e1 r f (r.length.trans hn) h' fun _ _ _ z => z
  apply wpAny_Call_Name_kw
  refine ld_glob I hg hm ?_ hdb
  refine PySem.W.callWith_K (h₀ := X.base) I.ok.mod.kin hk ?_ he hpl
  apply thn (ha.pa.run pos pins s σ H _ I ht)
  intro us s1 ⟨vs, H1, I1, r, q⟩
  exact ⟨I1.kIn, run_fnG F hr hb tk I1 r q⟩⟩⟩
/-- f() -/
theorem e_call0 {φ : List D → FR} (F : FnG X.prog X.w X.K X.mg X.base k f fd ps (spF (gd X) ps.length [] φ)) (hr : GRoom k X.A) (hm : X.mg x = some (.ref f)) (hk : PySem.W.keepIn X.K (.ref f) = true) (hb : Binds X.K fd ps []) (tk : Takes X W)
    (hg : Gl X x := by rfl) (hdb : (x == ("__debug__" : Str)) = false := by decide) : EOk X W (.Call (.Name x p) [] [] pos) (sCallF ps.length φ sNil) := ⟨⟨fun pins s σ H Q I ⟨P, ρ, A, st, h⟩ => by
  obtain ⟨hn, h'⟩ := callF_post (ds := []) (S := sNil) rfl h
  apply wpAny_Call_Name_kw
  refine ld_glob I hg hm ?_ hdb
  refine PySem.W.callWith_K0 I.kIn hk ?_
  exact run_fnG (us := []) F hr hb tk I .nil (spF_of st.und (Ext.refl st.und) .nil Fresh.nil hn h' fun _ _ _ z => z)⟩⟩
end
end RL

/-! RL: the law's own head. -/
namespace RL
open PySem PySem.Spec PyProof.Rows L2
section
variable {P : Program} {w : World} {K : PySem.W.Frag} {mg mb : Str → Option Value} {k : Nat} {fa a : Addr} {fd : FuncData} {x : Str} {φ : List D → FR} {s : Shared} {vs : List Value} {ns : List Int}
/-- the law is called where just the script is tracked, or nothing -/
theorem enter {H : Hp} (KX : K.In s.heap) (hns : s.heap.Ns mainGlobals mg) (hb : s.heap.Ns builtinsNs mb) (hbb : ∀ x : Str, x ≠ "__name__" → mb x = bootBuiltins x) (hlim : s.heap.NoLimit) (hg : s.gens = #[])
    (ha : s.heap.get? a = some { cls := .type "list", data := .seq vs.toArray }) (hr : GRoom k callerA) (F : ∀ base : Heap, K.In base → base.Ns mainGlobals mg → FnG P w K mg base k fa fd [x] (spF ⟨K, mg⟩ 1 [] φ))
    (hbind : ∀ (s : Shared) (u : Value), BindsTo s fd ⟨[u], []⟩ [(x, u)]) (hφ : ∃ os, φ [.scr ns] = .ok (.bl true) os) (hS : SqL K H a (ns.map V.int)) (hok : HOk P w H s.heap)
    (only : ∀ b u, H b = some u → b = a ∧ ∃ o ys, u = .frz o (.lst ys)) (free : ∀ u, H a = some u → K.lookup a = none) :
    codeAny (model P w) callerA (.call (.ref fa) ⟨[.ref a], []⟩) (fun r s' => r = .ok (.ret (.bool true)) ∧ OldK s.heap s'.heap ∧ s'.os = s.os ∧ AllBare s'.gens) s := by
  have away : ∀ {b : Addr} {o : Obj}, s.heap.get? b = some o → b ≠ a → (hidT s.heap H).get? b = some o := by
    intro b o q ne
    apply hidT_get q
    cases z : H b with
    | none => rfl
    | some u => exact absurd (only b u z).1 ne
  have space : ∀ {b : Addr} {m : Str → Option Value}, s.heap.Ns b m → (hidT s.heap H).Ns b m := by
    rintro b m ⟨o, es, ep, q, d, rest⟩
    refine ⟨o, es, ep, away q ?_, d, rest⟩
    rintro rfl
    rw [ha] at q
    cases q
    cases d
  have kin : K.In (hidT s.heap H) := by
    intro b o q
    by_cases ne : b = a
    · subst ne
      apply hidT_get (KX _ _ q)
      cases z : H b with
      | none => rfl
      | some u => rw [free u z] at q; cases q
    · exact away (KX _ _ q) ne
  have md : Mod K mg (hidT s.heap H) := by
    obtain ⟨mc, l1, l2⟩ := hlim
    exact ⟨kin, space hns, ⟨mb, space hb, hbb⟩, ⟨mc, space l1, l2⟩⟩
  have env : Env0 P w K mg (hidT s.heap H) callerA [] s H := by
    refine ⟨rfl, md, fun b o q => of_hidT q, Nat.le_of_eq (hidT_size _ _), trivial, ?_, hok, .of_eq hg⟩
    intro b hb
    cases hb
  have und : Under H H := fun b u q => .inl q
  have prom : spF ⟨K, mg⟩ 1 [] φ [.ref a] H (fun v _ => v = .bl true) fun _ _ _ => False := by
    obtain ⟨os, hφ⟩ := hφ
    refine ⟨rfl, H, [.scr ns], [], und, .cons (A := []) (B := []) (.scr hS) .nil, List.nodup_nil, fun b hb => by simp at hb, ?_⟩
    rw [hφ]
    intro v P' H' B C _ r _ _ _
    cases r
    rfl
  apply codeAny_mono ((F _ kin (space hns)).run callerA [] s H ⟨[.ref a], []⟩ [.ref a] [.ref a] _ _ hr env (hbind s (.ref a)) (.cons rfl .nil) prom)
  intro r s' h
  cases r with
  | error e =>
    obtain ⟨_, _, _, _, _, _, _, _, _, _, _, _, z⟩ := h
    exact z.elim
  | ok fl =>
    cases fl with
    | next => exact h.elim
    | brk => exact h.elim
    | cont => exact h.elim
    | ret u =>
      obtain ⟨v, H', os, bare, un, hok', rv, e⟩ := h
      have e : v = .bl true := e
      subst e
      have e : u = Value.bool true := rv
      subst e
      refine ⟨rfl, OldK.of_keep ?_, os, bare⟩
      intro b o q
      cases z : H b with
      | none =>
        apply un.keep b o q z
        · intro y; cases y
        · intro y; cases y
      | some u =>
        obtain ⟨rfl, ob, ys, rfl⟩ := only b u z
        have z2 := un.frzs _ _ _ z
        have h1 := (hok _ _ z).1
        have h2 := (hok' _ _ z2).1
        rw [q] at h1
        cases h1
        exact h2
theorem enters (KX : K.In s.heap) (hns : s.heap.Ns mainGlobals mg) (hb : s.heap.Ns builtinsNs mb) (hbb : ∀ x : Str, x ≠ "__name__" → mb x = bootBuiltins x) (hlim : s.heap.NoLimit) (hg : s.gens = #[])
    (ha : s.heap.get? a = some { cls := .type "list", data := .seq vs.toArray }) (hi : IntsAre vs ns) (hl : ns.length ≤ sizeLine) (hr : GRoom k callerA) (F : ∀ base : Heap, K.In base → base.Ns mainGlobals mg → FnG P w K mg base k fa fd [x] (spF ⟨K, mg⟩ 1 [] φ))
    (hbind : ∀ (s : Shared) (u : Value), BindsTo s fd ⟨[u], []⟩ [(x, u)]) (hφ : ∃ os, φ [.scr ns] = .ok (.bl true) os) :
    codeAny (model P w) callerA (.call (.ref fa) ⟨[.ref a], []⟩) (fun r s' => r = .ok (.ret (.bool true)) ∧ OldK s.heap s'.heap ∧ s'.os = s.os ∧ AllBare s'.gens) s := by
  have rel := vals_ints hi
  have size := hi.length
  cases q : K.lookup a with
  | none =>
    let o : Obj := { cls := .type "list", data := .seq vs.toArray }
    let H : Hp := fun b => if b = a then some (.frz o (.lst (ns.map V.int))) else none
    have at_a : H a = some (.frz o (.lst (ns.map V.int))) := if_pos rfl
    have only : ∀ b u, H b = some u → b = a ∧ u = .frz o (.lst (ns.map V.int)) := by
      intro b u z
      by_cases e : b = a
      · have z' : some (HO.frz o (.lst (ns.map V.int))) = some u := (if_pos e).symm.trans z
        exact ⟨e, (Option.some.inj z').symm⟩
      · have z' : (none : Option HO) = some u := (if_neg e).symm.trans z
        cases z'
    apply enter (H := H) KX hns hb hbb hlim hg ha hr F hbind hφ (.inl (.inr ⟨o, at_a⟩))
    · intro b u z
      obtain ⟨rfl, rfl⟩ := only b u z
      exact ⟨ha, by rw [List.length_map]; exact hl, vs, _, rel, ha⟩
    · intro b u z
      obtain ⟨e1, e2⟩ := only b u z
      exact ⟨e1, _, _, e2⟩
    · intro u z
      exact q
  | some ob =>
    have e := KX a ob q
    rw [ha] at e
    cases e
    refine enter (H := fun _ => none) KX hns hb hbb hlim hg ha hr F hbind hφ (.inr ⟨_, vs.toArray, _, q, rfl, rfl, rfl, ?_, ?_⟩) ?_ ?_ ?_
    · rw [List.size_toArray, size]; exact hl
    · simpa using rel
    · intro b u z; cases z
    · intro b u z; cases z
    · intro u z; cases z
end
/-- a law's walk, by a pure promise -/
theorem walkG {l : PySem.W.OpenLaw} {n k : Nat} {q : Program} {loose : List Str} {XP : (Str → Option Value) → Heap → Prop} {YP : World → Heap → Prop} {d : DefRec} {x : Str} (hn : l.most = some n) (hn2 : n ≤ sizeLine) (hdf : d.params.defaults = []) (hr : Room k callerA)
    (F : ∀ (w : World) (mg : Str → Option Value) (fa : Addr) (h : Heap), YP w h → h.Ns mainGlobals mg → mg d.name = some (.ref fa) → ∃ (K : PySem.W.Frag) (fd : FuncData) (φ : List D → FR), K.In h ∧ (∀ (s : Shared) (u : Value), BindsTo s fd ⟨[u], []⟩ [(x, u)]) ∧
      (∀ ns : List Int, ns.length ≤ n → ∃ os, φ [.scr ns] = .ok (.bl true) os) ∧ ∀ base : Heap, K.In base → base.Ns mainGlobals mg → FnG l.prog w K mg base k fa fd [x] (spF ⟨K, mg⟩ 1 [] φ)) :
    PySem.W.WalkO q loose XP YP l.row.toRowW d [] fun f vs => PySem.call f vs := by
  apply Att.attach_call hn hdf
  intro w s₀ s₁ mg mb fa o pm cd doc a vs ns G Y ho hd hcd hmg hobj hints hlen hg
  obtain ⟨K, fd, φ, KX, hb, hφ, hF⟩ := F w mg fa _ Y G.T.g hmg
  exact enters KX G.T.g G.T.b G.T.builtins G.T.nolimit hg hobj hints (Nat.le_trans hlen hn2) ⟨hr, rfl⟩ hF hb (hφ ns hlen)
end RL

/-! RL: repr of data. -/
namespace RL
open PySem PySem.Spec PyProof.Rows L2
/-! ### what can be shown: no objects, ints of moderate size, no greater depth than n -/
def keySml : Key → Bool
  | .inl i => sml i
  | .inr x => PyData.strOk x
def repN : Nat → D → Bool
  | _, .non => true
  | _, .bl _ => true
  | _, .int i => sml i
  | _, .str x => PyData.strOk x
  | n + 1, .tup ds => ds.all (repN n)
  | n + 1, .lst _ ds => ds.all (repN n)
  | n + 1, .dct _ ks ds => ks.all keySml && ds.all (repN n)
  | _, _ => false
mutual
def noDct : D → Bool
  | .tup ds => noDctL ds
  | .lst _ ds => noDctL ds
  | .dct _ _ _ => false
  | _ => true
def noDctL : List D → Bool
  | [] => true
  | d :: ds => noDct d && noDctL ds
end
mutual
def noLst : D → Bool
  | .tup ds => noLstL ds
  | .lst _ _ => false
  | .dct _ _ ds => noLstL ds
  | _ => true
def noLstL : List D → Bool
  | [] => true
  | d :: ds => noLst d && noLstL ds
end
mutual
/-- no less than the text's length -/
def costD : D → Nat
  | .int _ => 1910
  | .str x => 10 * x.length + 2
  | .tup ds => costL ds + 4
  | .lst _ ds => costL ds + 4
  | .dct _ ks ds => costK ks + costL ds + 4
  | _ => 5
def costL : List D → Nat
  | [] => 0
  | d :: ds => costD d + 2 + costL ds
def costK : List Key → Nat
  | [] => 0
  | .inl _ :: ks => 1912 + costK ks
  | .inr x :: ks => 10 * x.length + 4 + costK ks
end
theorem showableAll_of : ∀ {ds : List PyData}, (∀ d ∈ ds, d.showable = true) → PyData.showableAll ds = true
  | [], _ => rfl
  | d :: ds, h => by
    rw [PyData.showableAll, h d List.mem_cons_self, showableAll_of fun e he => h e (List.mem_cons_of_mem _ he)]
    rfl
theorem showableKv_of : ∀ {ks : List Key} {ds : List PyData}, (∀ k ∈ ks, keySml k = true) → (∀ d ∈ ds, d.showable = true) → PyData.showableKv ((ks.map keyPy).zip ds) = true
  | [], _, _, _ => by simp [PyData.showableKv]
  | _ :: _, [], _, _ => by simp [PyData.showableKv]
  | k :: ks, d :: ds, h, h' => by
    have hk : (keyPy k).showable = true := by
      have := h k List.mem_cons_self
      cases k with
      | inl i => simp only [keySml, sml, decide_eq_true_eq] at this; simp only [keyPy, PyData.showable, decide_eq_true_eq]; omega
      | inr x => simp [keyPy, PyData.showable]
    rw [List.map_cons, List.zip_cons_cons, PyData.showableKv, hk, h' d List.mem_cons_self, showableKv_of (fun e he => h e (List.mem_cons_of_mem _ he)) fun e he => h' e (List.mem_cons_of_mem _ he)]
    rfl
theorem depthKv_of {n : Nat} : ∀ {ks : List Key} {ds : List PyData}, (∀ d ∈ ds, d.depth ≤ n) → PyData.depthKv ((ks.map keyPy).zip ds) ≤ n
  | [], _, _ => by simp [PyData.depthKv]
  | _ :: _, [], _ => by simp [PyData.depthKv]
  | k :: ks, d :: ds, h => by
    have h1 := h d List.mem_cons_self
    have h2 := depthKv_of (ks := ks) fun e he => h e (List.mem_cons_of_mem d he)
    have h3 : (keyPy k).depth = 0 := by cases k <;> simp [keyPy, PyData.depth]
    simp only [List.map_cons, List.zip_cons_cons, PyData.depthKv]
    omega
theorem repN_ok : ∀ {n : Nat} {d : D}, repN n d = true → d.py.showable = true ∧ d.py.depth ≤ n + 1
  | n, .non, _ => by simp [D.py, PyData.showable, PyData.depth]
  | n, .bl b, _ => by simp [D.py, PyData.showable, PyData.depth]
  | n, .str b, _ => by simp [D.py, PyData.showable, PyData.depth]
  | n, .int i, h => by
    have h' : sml i = true := by cases n <;> simpa [repN] using h
    simp only [sml, decide_eq_true_eq] at h'
    refine ⟨?_, by simp [D.py, PyData.depth]⟩
    simp only [D.py, PyData.showable, decide_eq_true_eq]; omega
  | 0, .tup ds, h => by simp [repN] at h
  | n + 1, .tup ds, h => by
    have h' : ∀ d ∈ ds, repN n d = true := by simpa [repN] using h
    have q : ∀ d ∈ ds.map D.py, d.showable = true ∧ d.depth ≤ n + 1 := fun d hd => by
      obtain ⟨e, he, rfl⟩ := List.mem_map.mp hd
      exact repN_ok (h' e he)
    simp only [D.py, pyL_eq, PyData.showable, PyData.depth]
    have := depthAll_of fun d hd => (q d hd).2
    exact ⟨showableAll_of fun d hd => (q d hd).1, by omega⟩
  | 0, .lst _ ds, h => by simp [repN] at h
  | n + 1, .lst _ ds, h => by
    have h' : ∀ d ∈ ds, repN n d = true := by simpa [repN] using h
    have q : ∀ d ∈ ds.map D.py, d.showable = true ∧ d.depth ≤ n + 1 := fun d hd => by
      obtain ⟨e, he, rfl⟩ := List.mem_map.mp hd
      exact repN_ok (h' e he)
    simp only [D.py, pyL_eq, PyData.showable, PyData.depth]
    have := depthAll_of fun d hd => (q d hd).2
    exact ⟨showableAll_of fun d hd => (q d hd).1, by omega⟩
  | 0, .dct _ _ ds, h => by simp [repN] at h
  | n + 1, .dct _ ks ds, h => by
    have h' : (∀ k ∈ ks, keySml k = true) ∧ ∀ d ∈ ds, repN n d = true := by simpa [repN] using h
    have q : ∀ d ∈ ds.map D.py, d.showable = true ∧ d.depth ≤ n + 1 := fun d hd => by
      obtain ⟨e, he, rfl⟩ := List.mem_map.mp hd
      exact repN_ok (h'.2 e he)
    simp only [D.py, pyL_eq, PyData.showable, PyData.depth]
    have := depthKv_of (ks := ks) fun d hd => (q d hd).2
    exact ⟨showableKv_of h'.1 fun d hd => (q d hd).1, by omega⟩
  | 0, .obj _ _ _ _, h => by simp [repN] at h
  | n + 1, .obj _ _ _ _, h => by simp [repN] at h
  | 0, .exn _ _ _, h => by simp [repN] at h
  | n + 1, .exn _ _ _, h => by simp [repN] at h
  | 0, .scr _, h => by simp [repN] at h
  | n + 1, .scr _, h => by simp [repN] at h
/-! ### how long the text is -/
theorem piledL_le (f : PyData → Nat) : ∀ {ds : List PyData}, (∀ d ∈ ds, d.shown.length ≤ f d) → piled (PyData.shownAll ds) ≤ (ds.map fun d => f d + 2).sum
  | [], _ => by simp [PyData.shownAll, piled]
  | d :: ds, h => by
    have h1 := h d List.mem_cons_self
    have h2 := piledL_le f fun e he => h e (List.mem_cons_of_mem d he)
    simp only [PyData.shownAll, List.map_cons, List.sum_cons]
    have e : piled (d.shown :: PyData.shownAll ds) = d.shown.length + 2 + piled (PyData.shownAll ds) := by simp [piled]
    omega
theorem joined_le (ts : List Str) : (Str.join ", " ts).length ≤ piled ts := by
  by_cases h : ts = []
  · subst h; decide
  · have := join_length_add ts h
    omega
theorem brackets_le (a b : Str) (ts : List Str) (ha : a.length ≤ 2) (hb : b.length ≤ 2) : (a ++ Str.join ", " ts ++ b).length ≤ piled ts + 4 := by
  have := joined_le ts
  rw [strLen_append, strLen_append]
  omega
theorem strOk_lt {x : Str} (h : PyData.strOk x = true) : ∀ c ∈ x.cps.toList, c < 16 ^ 8 := fun c hc => by
  unfold PyData.strOk at h
  rw [← Array.all_toList] at h
  have := List.all_eq_true.mp h c hc
  have := of_decide_eq_true this
  omega
theorem keyShown_le (k : Key) (h : keySml k = true) : (keyPy k).shown.length + 2 ≤ costK [k] := by
  cases k with
  | inl i =>
    simp only [keySml, sml, decide_eq_true_eq] at h
    have e := int_text_length_le (a := i) (k := 1900) (by decide) h
    simp only [keyPy, PyData.shown, costK]
    rw [PySem.ofString_length]
    omega
  | inr x =>
    have := PySem.StrLaws.reprText_len x (strOk_lt h)
    simp only [keyPy, PyData.shown, costK]
    omega
theorem costL_eq : ∀ ds : List D, costL ds = (ds.map fun d => costD d + 2).sum
  | [] => rfl
  | d :: ds => by rw [costL, costL_eq ds, List.map_cons, List.sum_cons]
theorem piledC : ∀ {ds : List D}, (∀ d ∈ ds, d.py.shown.length ≤ costD d) → piled (PyData.shownAll (pyL ds)) ≤ costL ds
  | [], _ => by simp [pyL, PyData.shownAll, piled, costL]
  | d :: ds, h => by
    have h1 := h d List.mem_cons_self
    have h2 := piledC fun e he => h e (List.mem_cons_of_mem d he)
    simp only [pyL, PyData.shownAll, costL, piled_cons]
    omega
theorem piledK : ∀ {ks : List Key} {ds : List D}, (∀ k ∈ ks, keySml k = true) → (∀ d ∈ ds, d.py.shown.length ≤ costD d) → piled (PyData.shownKv ((ks.map keyPy).zip (pyL ds))) ≤ costK ks + costL ds
  | [], _, _, _ => by simp [PyData.shownKv, piled]
  | _ :: _, [], _, _ => by simp [PyData.shownKv, pyL, piled]
  | k :: ks, d :: ds, hk, h => by
    have h1 := h d List.mem_cons_self
    have h2 := piledK (ks := ks) (fun e he => hk e (List.mem_cons_of_mem _ he)) fun e he => h e (List.mem_cons_of_mem d he)
    have h3 := keyShown_le k (hk k List.mem_cons_self)
    have h4 : costK (k :: ks) = costK [k] + costK ks := by cases k <;> simp [costK]
    have h5 : ((": " : String) : Str).length = 2 := by decide
    simp only [pyL, List.map_cons, List.zip_cons_cons, PyData.shownKv, costL, piled_cons]
    rw [strLen_append, strLen_append]
    omega
theorem cost_ok : ∀ {n : Nat} {d : D}, repN n d = true → d.py.shown.length ≤ costD d
  | n, .non, _ => by simp only [D.py, PyData.shown, costD]; decide
  | n, .bl b, _ => by simp only [D.py, PyData.shown, costD]; cases b <;> decide
  | n, .str x, h => by
    have h' : PyData.strOk x = true := by cases n <;> simpa [repN] using h
    exact PySem.StrLaws.reprText_len x (strOk_lt h')
  | n, .int i, h => by
    have h' : sml i = true := by cases n <;> simpa [repN] using h
    have := keyShown_le (.inl i) h'
    simp only [keyPy, costK] at this
    simp only [D.py, costD]
    omega
  | 0, .tup ds, h => by simp [repN] at h
  | n + 1, .tup ds, h => by
    have h' : ∀ d ∈ ds, repN n d = true := by simpa [repN] using h
    have q := piledC fun d hd => cost_ok (h' d hd)
    simp only [D.py, PyData.shown, costD]
    unfold tupleText
    refine Nat.le_trans (brackets_le _ _ _ (by decide) (by split <;> decide)) (by omega)
  | 0, .lst _ ds, h => by simp [repN] at h
  | n + 1, .lst _ ds, h => by
    have h' : ∀ d ∈ ds, repN n d = true := by simpa [repN] using h
    have q := piledC fun d hd => cost_ok (h' d hd)
    simp only [D.py, PyData.shown, costD]
    rw [listText_eq_join]
    exact Nat.le_trans (brackets_le _ _ _ (by decide) (by decide)) (by omega)
  | 0, .dct _ _ ds, h => by simp [repN] at h
  | n + 1, .dct _ ks ds, h => by
    have h' : (∀ k ∈ ks, keySml k = true) ∧ ∀ d ∈ ds, repN n d = true := by simpa [repN] using h
    have q := piledK h'.1 fun d hd => cost_ok (h'.2 d hd)
    simp only [D.py, PyData.shown, costD]
    unfold dictText
    exact Nat.le_trans (brackets_le _ _ _ (by decide) (by decide)) (by omega)
  | 0, .obj _ _ _ _, h => by simp [repN] at h
  | n + 1, .obj _ _ _ _, h => by simp [repN] at h
  | 0, .exn _ _ _, h => by simp [repN] at h
  | n + 1, .exn _ _ _, h => by simp [repN] at h
  | 0, .scr _, h => by simp [repN] at h
  | n + 1, .scr _, h => by simp [repN] at h
/-! ### the data as the library reads it -/
theorem noDct_py : ∀ {d : D}, noDct d = true → d.py.hasDict = false := by
  have all : ∀ {ds : List D}, (∀ d ∈ ds, d.py.hasDict = false) → PyData.hasDictAll (pyL ds) = false := by
    intro ds
    induction ds with
    | nil => intro _; simp [pyL, PyData.hasDictAll]
    | cons d ds ih =>
      intro h
      rw [pyL, PyData.hasDictAll, h d List.mem_cons_self, ih fun e he => h e (List.mem_cons_of_mem _ he)]
      rfl
  have mem : ∀ {ds : List D}, noDctL ds = true → ∀ d ∈ ds, noDct d = true := by
    intro ds
    induction ds with
    | nil => intro _ d hd; simp at hd
    | cons e ds ih =>
      intro h d hd
      simp only [noDctL, Bool.and_eq_true] at h
      rcases List.mem_cons.mp hd with rfl | hd
      · exact h.1
      · exact ih h.2 d hd
  intro d
  have key : ∀ n (d : D), sizeOf d ≤ n → noDct d = true → d.py.hasDict = false := by
    intro n
    induction n with
    | zero => intro d hs; cases d <;> simp at hs
    | succ n ih =>
      intro d hs h
      cases d with
      | tup ds =>
        simp only [D.py, PyData.hasDict]
        refine all fun e he => ih e ?_ (mem (by simpa [noDct] using h) e he)
        have := List.sizeOf_lt_of_mem he
        simp at hs
        omega
      | lst o ds =>
        simp only [D.py, PyData.hasDict]
        refine all fun e he => ih e ?_ (mem (by simpa [noDct] using h) e he)
        have := List.sizeOf_lt_of_mem he
        simp at hs
        omega
      | dct _ _ _ => simp [noDct] at h
      | _ => simp [D.py, PyData.hasDict]
  exact key _ d (Nat.le_refl _)
section
variable {X : Cx} {pins : List (Addr × Obj)} {σ : Sl} {H P : Hp} {s : Shared}
theorem keys_read {h : Heap} : ∀ {es : List DictEntry} {vs : List (Key × Value)}, Pairs (mixKind X.prog X.w) es vs → ReadsAll h (es.map (·.key)) (vs.map fun p => keyPy p.1) []
  | _, _, .nil => .nil
  | _, _, .cons (e := e) (kv := kv) hk hv t => by
    have r : Reads h e.key (keyPy kv.1) [] := by
      rcases keyIs_shape (k := kv.1) (v := e.key) hk with ⟨i, u, e1, e2⟩ | ⟨x, u, e1, e2⟩
      · rw [e1, e2]; exact .int i u
      · rw [e1, e2]; exact .str x u
    exact .cons (as := []) (bs := []) r (keys_read t)
theorem vals_read : ∀ {es : List DictEntry} {vs : List (Key × Value)}, Pairs (mixKind X.prog X.w) es vs → es.map (·.val) = vs.map (·.2)
  | _, _, .nil => rfl
  | _, _, .cons hk hv t => by rw [List.map_cons, List.map_cons, hv, vals_read t]
theorem kv_split : ∀ {ks : List Key} {xs : List V} {vs : List (Key × Value)}, ks.length = xs.length → KV (ks.zip xs) vs → vs.map (·.1) = ks ∧ Vals xs (vs.map (·.2))
  | [], [], _, _, h => by cases h; exact ⟨rfl, .nil⟩
  | [], _ :: _, _, h, _ => by simp at h
  | _ :: _, [], _, h, _ => by simp at h
  | k :: ks, x :: xs, _, hl, h => by
    cases h with
    | @cons a b l1 l2 r t =>
      obtain ⟨h1, h2⟩ := kv_split (by simpa using hl) t
      refine ⟨?_, .cons r.2 h2⟩
      rw [List.map_cons, h1, ← r.1]
mutual
theorem Rel.reads (I : Inv X pins σ H s) (u : Under P H) : ∀ {n : Nat} {v : V} {d : D} {A : List Addr} {w : Value}, Rel (gd X) P H v d A → RelV v w → repN n d = true → ∃ as, Reads s.heap w d.py as ∧ (noLst d = true → sysModules ∉ as)
  | n, _, _, _, _, .non, r, _ => by cases r; exact ⟨_, by rw [D.py]; exact .none, fun _ => by simp⟩
  | n, _, _, _, _, .bl b, r, _ => by cases r; exact ⟨_, by rw [D.py]; exact .bool b, fun _ => by simp⟩
  | n, _, _, _, _, .int i, r, _ => by obtain ⟨t, rfl⟩ := r; exact ⟨_, by rw [D.py]; exact .int i t, fun _ => by simp⟩
  | n, _, _, _, _, .str i, r, _ => by obtain ⟨t, rfl⟩ := r; exact ⟨_, by rw [D.py]; exact .str i t, fun _ => by simp⟩
  | 0, _, _, _, _, .tup q r, _, h => by simp [repN] at h
  | n + 1, _, _, _, _, .tup q r, e, h => by
    cases e
    obtain ⟨its, rv, ⟨o, ho, hc, m, hd⟩, _⟩ := I.tuple (u.seqT q)
    obtain ⟨as, h1, h2⟩ := RelL.reads I u r rv (by simpa [repN] using h)
    exact ⟨as, by rw [D.py]; exact .tuple ho hc hd (by simpa using h1), fun z => h2 (by simpa [noLst] using z)⟩
  | 0, _, _, _, _, .lstF q r, _, h => by simp [repN] at h
  | n + 1, _, _, _, _, .lstF q r, e, h => by
    cases e
    obtain ⟨its, rv, ⟨o, m, ho, hc, _, hd⟩, _⟩ := I.list (u.seqL (SqL.of q))
    obtain ⟨as, h1, h2⟩ := RelL.reads I u r rv (by simpa [repN] using h)
    exact ⟨_, by rw [D.py]; exact .list ho hc hd (by simpa using h1), fun z => by simp [noLst] at z⟩
  | 0, _, _, _, _, .lstO q r, _, h => by simp [repN] at h
  | n + 1, _, _, _, _, .lstO q r, e, h => by
    cases e
    obtain ⟨its, rv, ⟨o, m, ho, hc, _, hd⟩, _⟩ := I.list (SqL.of (K := X.K) q)
    obtain ⟨as, h1, h2⟩ := RelL.reads I u r rv (by simpa [repN] using h)
    exact ⟨_, by rw [D.py]; exact .list ho hc hd (by simpa using h1), fun z => by simp [noLst] at z⟩
  | 0, _, _, _, _, .dctF q l r, _, h => by simp [repN] at h
  | n + 1, _, _, _, _, .dctF (a := a) (ks := ks) (vs := xs) (ds := ds) q l r, e, h => by
    cases e
    have h' : ks.all keySml = true ∧ ∀ d ∈ ds, repN n d = true := by simpa [repN] using h
    have hq : Rd H a (.dK (ks.zip xs)) := by
      rcases u _ _ q with z | ⟨ob, _, _, z⟩
      · exact .inl z
      · exact .inr ⟨ob, z⟩
    obtain ⟨_, lo, vs, kv, o, es, ep, ho, hx, hd, _, hp, _⟩ := dk_rd I.hok hq
    obtain ⟨k1, k2⟩ := kv_split l kv
    obtain ⟨as, h1, h2⟩ := RelL.reads I u r k2 h'.2
    have hl : (ks.map keyPy).length = (pyL ds).length := by rw [List.length_map, l, r.length, pyL_eq, List.length_map]
    have q1 : ReadsAll s.heap (es.toList.map (·.key)) (((ks.map keyPy).zip (pyL ds)).map (·.1)) [] := by
      rw [List.map_fst_zip (by omega), ← k1, List.map_map]; exact keys_read hp
    have q2 : ReadsAll s.heap (es.toList.map (·.val)) (((ks.map keyPy).zip (pyL ds)).map (·.2)) as := by
      rw [List.map_snd_zip (by omega), vals_read hp]; exact h1
    refine ⟨[a] ++ as, by rw [D.py]; exact .dict (as := []) ho hx.1 hd q1 q2, fun z => ?_⟩
    · simp only [List.append_nil, List.cons_append, List.nil_append, List.mem_cons, not_or]
      exact ⟨fun z => by rw [← z] at lo; simp at lo, h2 (by simpa [noLst] using z)⟩
  | 0, _, _, _, _, .dctO q l r, _, h => by simp [repN] at h
  | n + 1, _, _, _, _, .dctO (a := a) (ks := ks) (vs := xs) (ds := ds) q l r, e, h => by
    cases e
    have h' : ks.all keySml = true ∧ ∀ d ∈ ds, repN n d = true := by simpa [repN] using h
    obtain ⟨_, lo, vs, kv, o, es, ep, ho, hx, hd, _, hp, _⟩ := dk_rd I.hok (.inl q)
    obtain ⟨k1, k2⟩ := kv_split l kv
    obtain ⟨as, h1, h2⟩ := RelL.reads I u r k2 h'.2
    have hl : (ks.map keyPy).length = (pyL ds).length := by rw [List.length_map, l, r.length, pyL_eq, List.length_map]
    have q1 : ReadsAll s.heap (es.toList.map (·.key)) (((ks.map keyPy).zip (pyL ds)).map (·.1)) [] := by
      rw [List.map_fst_zip (by omega), ← k1, List.map_map]; exact keys_read hp
    have q2 : ReadsAll s.heap (es.toList.map (·.val)) (((ks.map keyPy).zip (pyL ds)).map (·.2)) as := by
      rw [List.map_snd_zip (by omega), vals_read hp]; exact h1
    refine ⟨[a] ++ as, by rw [D.py]; exact .dict (as := []) ho hx.1 hd q1 q2, fun z => ?_⟩
    · simp only [List.append_nil, List.cons_append, List.nil_append, List.mem_cons, not_or]
      exact ⟨fun z => by rw [← z] at lo; simp at lo, h2 (by simpa [noLst] using z)⟩
  | n, _, _, _, _, .scr _, _, h => by cases n <;> simp [repN] at h
  | n, _, _, _, _, .objF _ _ _ _, _, h => by cases n <;> simp [repN] at h
  | n, _, _, _, _, .objO _ _ _ _, _, h => by cases n <;> simp [repN] at h
theorem RelL.reads (I : Inv X pins σ H s) (u : Under P H) : ∀ {n : Nat} {vs : List V} {ds : List D} {A : List Addr} {ws : List Value}, RelL (gd X) P H vs ds A → Vals vs ws → (∀ d ∈ ds, repN n d = true) → ∃ as, ReadsAll s.heap ws (pyL ds) as ∧ (noLstL ds = true → sysModules ∉ as)
  | n, _, _, _, _, .nil, r, _ => by cases r; exact ⟨[], by rw [pyL]; exact .nil, fun _ => by simp⟩
  | n, _, _, _, _, .cons r t, e, h => by
    cases e with
    | cons e1 e2 =>
      obtain ⟨as, h1, h2⟩ := Rel.reads I u r e1 (h _ List.mem_cons_self)
      obtain ⟨bs, h3, h4⟩ := RelL.reads I u t e2 fun d hd => h d (List.mem_cons_of_mem _ hd)
      refine ⟨as ++ bs, by rw [pyL]; exact .cons h1 h3, fun z => ?_⟩
      simp only [noLstL, Bool.and_eq_true] at z
      simp only [List.mem_append, not_or]
      exact ⟨h2 z.1, h4 z.2⟩
end
end
/-- repr's meaning -/
def repOk (d : D) : Bool := repN 50 d && (noDct d || noLst d) && decide (costD d ≤ sizeLine)
def fRepr : List D → Option D
  | [d] => if repOk d = true then some (.str d.py.shown) else none
  | _ => none
theorem c_repr {X : Cx} {k : Nat} (hr : GRoom k X.A) : CallR X (.builtin "repr") (rC (gd X) fRepr) := by
  intro pins s σ H xs us Q I r ⟨P, ds, B, un, rl, o, h⟩
  cases rl with
  | nil => exact h.elim
  | @cons v d A1 vs ds B1 r1 r2 =>
    cases r2 with
    | cons _ _ => exact h.elim
    | nil =>
      simp only [fRepr] at h
      by_cases c : repOk d = true
      · rw [if_pos c] at h
        simp only [repOk, Bool.and_eq_true, Bool.or_eq_true, decide_eq_true_eq] at c
        obtain ⟨⟨c1, c2⟩, c3⟩ := c
        obtain ⟨u, rfl, ru⟩ := vals1 r
        obtain ⟨s1, s2⟩ := repN_ok c1
        have hz : d.py.shown.length ≤ sizeLine := Nat.le_trans (cost_ok c1) c3
        have hQ : ∀ h' t tk, (∀ b o, s.heap.get? b = some o → h'.get? b = some o) → EP X pins σ Q (.str d.py.shown t) { s with heap := h', toks := tk } := fun h' t tk hk => ⟨.str _, H, I.kept hk, ⟨t, rfl⟩, post_val un h (.str _)⟩
        have go : ∀ a, u = .ref a → wpAny (model X.prog X.w) X.A (call (.builtin "repr") [u]) (EP X pins σ Q) X.xe s := by
          rintro a rfl
          obtain ⟨as, rd, ns⟩ := Rel.reads I un r1 ru c1
          refine repr_of_reads' rd s1 (fun z => ?_) hr.g (by have := hr.r.units; omega) (fun _ _ e => e) hQ hz
          rcases c2 with c2 | c2
          · rw [noDct_py c2] at z; cases z
          · exact ns c2
        cases r1 with
        | non => cases ru; exact PySem.P.repr_of_none ⟨.str _, H, I.tok _, ⟨_, rfl⟩, by have := post_val un h (.str _); simpa [D.py, PyData.shown] using this⟩
        | bl b => cases ru; exact PySem.P.repr_of_bool ⟨.str _, H, I.tok _, ⟨_, rfl⟩, by have := post_val un h (.str _); cases b <;> simpa [D.py, PyData.shown] using this⟩
        | int i =>
          obtain ⟨t, rfl⟩ := ru
          have hs : i.natAbs.log2 < 1920 := by simpa [D.py, PyData.showable] using s1
          exact PySem.P.repr_of_int hs ⟨.str _, H, I.tok _, ⟨_, rfl⟩, by have := post_val un h (.str _); simpa [D.py, PyData.shown] using this⟩
        | str x =>
          obtain ⟨t, rfl⟩ := ru
          exact PySem.P.repr_of_str ⟨.str _, H, I.tok _, ⟨_, rfl⟩, by have := post_val un h (.str _); simpa [D.py, PyData.shown] using this⟩ (by simpa [D.py, PyData.shown] using hz)
        | _ => exact go _ (by cases ru; rfl)
      · rw [if_neg c] at h; exact h.elim
end RL

/-! RL: built-in functions. -/
namespace RL
open PySem PySem.Spec PyProof.Rows L2
section
variable {X : Cx} {W : WX}
theorem CallR.imp {f : Value} {r r' : List V → Hp → VK → Prop} (h : CallR X f r) (i : ∀ xs H Q, r' xs H Q → r xs H Q) : CallR X f r' := fun pins s σ H xs us Q I rr q => h pins s σ H xs us Q I rr (i _ _ _ q)
theorem MtR.imp {id : String} {r r' : V → List V → Hp → VK → Prop} (h : MtR X id r) (i : ∀ x xs H Q, r' x xs H Q → r x xs H Q) : MtR X id r' := fun pins s σ H x xs v us Q I r1 r2 q => h pins s σ H x xs v us Q I r1 r2 (i _ _ _ _ q)
/-- one argument -/
theorem rC1 {G : Gd} {f : D → Option D} {xs : List V} {H : Hp} {Q : VK} (h : rC G (fun ds => match ds with | [d] => f d | _ => none) xs H Q) :
    ∃ v P d B z, xs = [v] ∧ Under P H ∧ Rel G P H v d B ∧ (∀ b ∈ B, P b = none) ∧ f d = some z ∧ Post G P H Q z := by
  obtain ⟨P, ds, B, un, rl, o, h⟩ := h
  cases rl with
  | nil => exact h.elim
  | @cons v d A1 vs ds B1 r1 r2 =>
    cases r2 with
    | cons _ _ => exact h.elim
    | nil =>
      cases hf : f d with
      | none => simp only [hf] at h
      | some z => simp only [hf] at h; exact ⟨v, P, d, A1, z, rfl, un, r1, fun b hb => o b (List.mem_append_left _ hb), hf, h⟩
theorem rC2 {G : Gd} {f : D → D → Option D} {xs : List V} {H : Hp} {Q : VK} (h : rC G (fun ds => match ds with | [d, e] => f d e | _ => none) xs H Q) :
    ∃ v w P d e B C z, xs = [v, w] ∧ Under P H ∧ Rel G P H v d B ∧ Rel G P H w e C ∧ f d e = some z ∧ Post G P H Q z := by
  obtain ⟨P, ds, B, un, rl, o, h⟩ := h
  cases rl with
  | nil => exact h.elim
  | @cons v d A1 vs ds B1 r1 r2 =>
    cases r2 with
    | nil => exact h.elim
    | @cons w e A2 vs ds B2 r2 r3 =>
      cases r3 with
      | cons _ _ => exact h.elim
      | nil =>
        cases hf : f d e with
        | none => simp only [hf] at h
        | some z => simp only [hf] at h; exact ⟨v, w, P, d, e, A1, A2, z, rfl, un, r1, r2, hf, h⟩
def on1 (f : D → Option D) : List D → Option D := fun ds => match ds with
  | [d] => f d
  | _ => none
def on2 (f : D → D → Option D) : List D → Option D := fun ds => match ds with
  | [d, e] => f d e
  | _ => none
def fLen : D → Option D
  | .lst _ ds => some (.int ds.length)
  | .tup ds => some (.int ds.length)
  | .scr ns => some (.int ns.length)
  | .str z => if z.length ≤ sizeLine then some (.int z.length) else none
  | _ => none
theorem c_len : CallR X (.builtin "len") (rC (gd X) (on1 fLen)) := CallR.imp (CallR.or call_len_seq call_len_str) fun xs H Q h => by
  obtain ⟨v, P, d, B, z, rfl, un, r, o, hf, q⟩ := rC1 h
  cases r with
  | tup q1 r => simp only [fLen, Option.some.injEq] at hf; subst hf; exact .inl ⟨_, _, rfl, .inr (un.seqT q1), by rw [r.length]; exact post_val un q (.int _)⟩
  | lstF q1 r => simp only [fLen, Option.some.injEq] at hf; subst hf; exact .inl ⟨_, _, rfl, .inl (un.seqL (SqL.of q1)), by rw [r.length]; exact post_val un q (.int _)⟩
  | lstO q1 r => simp only [fLen, Option.some.injEq] at hf; subst hf; exact .inl ⟨_, _, rfl, .inl (SqL.of q1), by rw [r.length]; exact post_val un q (.int _)⟩
  | scr q1 => simp only [fLen, Option.some.injEq] at hf; subst hf; exact .inl ⟨_, _, rfl, .inl (un.seqL q1), by rw [List.length_map]; exact post_val un q (.int _)⟩
  | str x =>
    simp only [fLen] at hf
    split at hf
    · rename_i c; cases hf; exact .inr ⟨_, rfl, c, post_val un q (.int _)⟩
    · cases hf
  | _ => simp [fLen] at hf
def fAbs : D → Option D
  | .int i => some (.int (if i < 0 then -i else i))
  | _ => none
theorem c_abs : CallR X (.builtin "abs") (rC (gd X) (on1 fAbs)) := CallR.imp call_abs fun xs H Q h => by
  obtain ⟨v, P, d, B, z, rfl, un, r, o, hf, q⟩ := rC1 h
  cases r <;> simp only [fAbs] at hf <;> cases hf
  exact ⟨_, rfl, post_val un q (.int _)⟩
def fMax2 : D → D → Option D
  | .int i, .int j => some (.int (if j > i then j else i))
  | _, _ => none
def fMin2 : D → D → Option D
  | .int i, .int j => some (.int (if j < i then j else i))
  | _, _ => none
theorem c_max2 (hc : X.calm = true) : CallR X (.builtin "max") (rC (gd X) (on2 fMax2)) := CallR.imp (call_max2 hc) fun xs H Q h => by
  obtain ⟨v, w, P, d, e, B, C, z, rfl, un, r, r', hf, q⟩ := rC2 h
  cases r <;> cases r' <;> simp only [fMax2, fMin2, Option.some.injEq, reduceCtorEq] at hf
  subst hf
  exact ⟨_, _, rfl, post_val un q (.int _)⟩
theorem c_min2 (hc : X.calm = true) : CallR X (.builtin "min") (rC (gd X) (on2 fMin2)) := CallR.imp (call_min2 hc) fun xs H Q h => by
  obtain ⟨v, w, P, d, e, B, C, z, rfl, un, r, r', hf, q⟩ := rC2 h
  cases r <;> cases r' <;> simp only [fMax2, fMin2, Option.some.injEq, reduceCtorEq] at hf
  subst hf
  exact ⟨_, _, rfl, post_val un q (.int _)⟩
/-- list(x) -/
def fList : D → Option D
  | .lst _ ds => if cleanL ds = true then some (.lst true ds) else none
  | .tup ds => if cleanL ds = true then some (.lst true ds) else none
  | .scr ns => some (.lst true (ns.map .int))
  | _ => none
theorem c_list : CallR X (.type "list") (rC (gd X) (on1 fList)) := CallR.imp call_list_of fun xs H Q h => by
  obtain ⟨v, P, d, B, z, rfl, un, r, o, hf, q⟩ := rC1 h
  cases r with
  | tup q1 r =>
    simp only [fList] at hf
    split at hf
    · rename_i c; cases hf; exact ⟨_, _, rfl, .inr (un.seqT q1), fun p hp => post_lst un q (r.nil_of c) hp⟩
    · cases hf
  | lstF q1 r =>
    simp only [fList] at hf
    split at hf
    · rename_i c; cases hf; exact ⟨_, _, rfl, .inl (un.seqL (SqL.of q1)), fun p hp => post_lst un q (r.nil_of c) hp⟩
    · cases hf
  | lstO q1 r =>
    simp only [fList] at hf
    split at hf
    · rename_i c; cases hf; exact ⟨_, _, rfl, .inl (SqL.of q1), fun p hp => post_lst un q (r.nil_of c) hp⟩
    · cases hf
  | scr q1 => simp only [fList, Option.some.injEq] at hf; subst hf; exact ⟨_, _, rfl, .inl (un.seqL q1), fun p hp => post_lst un q (ints_rel _) hp⟩
  | _ => simp [fList] at hf
/-- tuple(x) -/
def fTuple : D → Option D
  | .lst _ ds => if cleanL ds = true then some (.tup ds) else none
  | .tup ds => if cleanL ds = true then some (.tup ds) else none
  | _ => none
theorem c_tuple : CallR X (.type "tuple") (rC (gd X) (on1 fTuple)) := CallR.imp call_tuple_of fun xs H Q h => by
  obtain ⟨v, P, d, B, z, rfl, un, r, o, hf, q⟩ := rC1 h
  cases r with
  | tup q1 r =>
    simp only [fTuple] at hf
    split at hf
    · rename_i c; cases hf; exact ⟨_, _, rfl, .inr ⟨un.seqT q1, post_val un q (.tup q1 (r.nil_of c))⟩⟩
    · cases hf
  | lstF q1 r =>
    simp only [fTuple] at hf
    split at hf
    · rename_i c; cases hf; exact ⟨_, _, rfl, .inl ⟨un.seqL (SqL.of q1), fun p hp => post_tup un q (r.nil_of c) hp⟩⟩
    · cases hf
  | lstO q1 r =>
    simp only [fTuple] at hf
    split at hf
    · rename_i c; cases hf; exact ⟨_, _, rfl, .inl ⟨SqL.of q1, fun p hp => post_tup un q (r.nil_of c) hp⟩⟩
    · cases hf
  | _ => simp [fTuple] at hf
/-- str(x) -/
def fStr : D → Option D
  | .int i => if sml i = true then some (.str (toString i)) else none
  | .str x => some (.str x)
  | _ => none
theorem c_str : CallR X (.type "str") (rC (gd X) (on1 fStr)) := CallR.imp (CallR.or call_str_int SkE.call_str_str) fun xs H Q h => by
  obtain ⟨v, P, d, B, z, rfl, un, r, o, hf, q⟩ := rC1 h
  cases r with
  | int i =>
    simp only [fStr] at hf
    split at hf
    · rename_i c
      cases hf
      simp only [sml, decide_eq_true_eq] at c
      exact .inl ⟨_, rfl, by omega, post_val un q (.str _)⟩
    · cases hf
  | str x => simp only [fStr, Option.some.injEq] at hf; subst hf; exact .inr ⟨_, rfl, post_val un q (.str _)⟩
  | _ => simp [fStr] at hf
/-- int(x) -/
def fInt : D → Option D
  | .int i => some (.int i)
  | .bl b => some (.int (if b then 1 else 0))
  | .str x => if x.length ≤ 640 then (PySem.intText? x).map .int else none
  | _ => none
theorem c_int : CallR X (.type "int") (rC (gd X) (on1 fInt)) := CallR.imp (CallR.or call_int1 call_int_str) fun xs H Q h => by
  obtain ⟨v, P, d, B, z, rfl, un, r, o, hf, q⟩ := rC1 h
  cases r with
  | int i => simp only [fInt, Option.some.injEq] at hf; subst hf; exact .inl (.inl ⟨_, rfl, post_val un q (.int _)⟩)
  | bl b => simp only [fInt, Option.some.injEq] at hf; subst hf; exact .inl (.inr ⟨_, rfl, post_val un q (.int _)⟩)
  | str x =>
    simp only [fInt] at hf
    split at hf
    · rename_i c
      cases hi : PySem.intText? x with
      | none => rw [hi] at hf; cases hf
      | some n =>
        rw [hi] at hf
        cases hf
        exact .inr ⟨_, n, rfl, hi, c, post_val un q (.int _)⟩
    · cases hf
  | _ => simp [fInt] at hf
/-- all, any of a list of bools -/
def blsOf : List D → Option (List Bool)
  | [] => some []
  | .bl b :: ds => (blsOf ds).map (b :: ·)
  | _ => none
theorem bls_rel {G : Gd} {P H : Hp} : ∀ {xs : List V} {ds : List D} {A : List Addr} {bs : List Bool}, RelL G P H xs ds A → blsOf ds = some bs → xs = bs.map V.bl
  | _, _, _, bs, .nil, h => by simp only [blsOf, Option.some.injEq] at h; subst h; rfl
  | _, _, _, bs, .cons (d := d) (ds := ds) r t, h => by
    cases r with
    | bl b =>
      simp only [blsOf] at h
      cases hb : blsOf ds with
      | none => rw [hb] at h; cases h
      | some cs => rw [hb] at h; cases h; rw [List.map_cons, bls_rel t hb]
    | _ => simp [blsOf] at h
def fAll : D → Option D
  | .lst _ ds => (blsOf ds).map fun bs => .bl (bs.all id)
  | _ => none
def fAny : D → Option D
  | .lst _ ds => (blsOf ds).map fun bs => .bl (bs.any id)
  | _ => none
theorem c_all (hc : X.calm = true) : CallR X (.builtin "all") (rC (gd X) (on1 fAll)) := CallR.imp (cr_all hc) fun xs H Q h => by
  obtain ⟨v, P, d, B, z, rfl, un, r, o, hf, q⟩ := rC1 h
  have go : ∀ {a : Addr} {xs : List V} {ds : List D} {A : List Addr}, SqL X.K H a xs → RelL (gd X) P H xs ds A → (blsOf ds).map (fun bs => D.bl (bs.all id)) = some z → rAll X.K [.ref a] H Q := fun {a xs ds A} q1 r hf => by
    cases hb : blsOf ds with
    | none => rw [hb] at hf; cases hf
    | some bs =>
      rw [hb] at hf
      cases hf
      exact ⟨a, bs, rfl, by rw [← bls_rel r hb]; exact q1, post_val un q (.bl _)⟩
  cases r with
  | lstF q1 r => exact go (un.seqL (SqL.of q1)) r hf
  | lstO q1 r => exact go (SqL.of q1) r hf
  | _ => simp [fAll] at hf
theorem c_any (hc : X.calm = true) : CallR X (.builtin "any") (rC (gd X) (on1 fAny)) := CallR.imp (cr_any hc) fun xs H Q h => by
  obtain ⟨v, P, d, B, z, rfl, un, r, o, hf, q⟩ := rC1 h
  have go : ∀ {a : Addr} {xs : List V} {ds : List D} {A : List Addr}, SqL X.K H a xs → RelL (gd X) P H xs ds A → (blsOf ds).map (fun bs => D.bl (bs.any id)) = some z → rAny X.K [.ref a] H Q := fun {a xs ds A} q1 r hf => by
    cases hb : blsOf ds with
    | none => rw [hb] at hf; cases hf
    | some bs =>
      rw [hb] at hf
      cases hf
      exact ⟨a, bs, rfl, by rw [← bls_rel r hb]; exact q1, post_val un q (.bl _)⟩
  cases r with
  | lstF q1 r => exact go (un.seqL (SqL.of q1)) r hf
  | lstO q1 r => exact go (SqL.of q1) r hf
  | _ => simp [fAny] at hf
/-- divmod(n, k), k written -/
def fDivmod : D → D → Option D
  | .int i, .int j => if 0 < j ∧ j < 1073741824 then some (.tup [.int (i / j), .int (i % j)]) else none
  | _, _ => none
theorem c_divmod : CallR X (.builtin "divmod") (rC (gd X) (on2 fDivmod)) := CallR.imp call_divmod fun xs H Q h => by
  obtain ⟨v, w, P, d, e, B, C, z, rfl, un, r, r', hf, q⟩ := rC2 h
  cases r <;> cases r' <;> simp only [fDivmod, reduceCtorEq] at hf
  split at hf
  · rename_i c
    cases hf
    exact ⟨_, _, rfl, c, fun p hp => post_tup un q (.cons (A := []) (B := []) (.int _) (.cons (A := []) (B := []) (.int _) .nil)) hp⟩
  · cases hf
/-! ### isinstance with a built-in class -/
def tyName : D → Option String
  | .non => some "NoneType"
  | .bl _ => some "bool"
  | .int _ => some "int"
  | .str _ => some "str"
  | .tup _ => some "tuple"
  | .lst _ _ => some "list"
  | .dct _ _ _ => some "dict"
  | _ => none
def fIsTy (T : String) : D → Option D := fun d => (tyName d).bind fun t => (kitB t T).map .bl
theorem ty_of {P H : Hp} {v : V} {d : D} {A : List Addr} {t : String} (un : Under P H) (r : Rel (gd X) P H v d A) (h : tyName d = some t) : TyX X.K H v (.type t) := by
  cases r with
  | non => cases h; exact .base .non
  | bl b => cases h; exact .base (.bl b)
  | int b => cases h; exact .base (.int b)
  | str b => cases h; exact .base (.str b)
  | tup q r =>
    cases h
    rcases un.seqT q with (z | ⟨o, z⟩) | ⟨o, its, n, z, c, _⟩
    · exact .base (.tup z)
    · exact .fTuple z
    · exact .kTuple z c
  | lstF q r =>
    cases h
    rcases un _ _ q with z | ⟨_, _, z, _⟩
    · exact .base (.lst z)
    · cases z
  | lstO q r => cases h; exact .base (.lst q)
  | dctF q l r =>
    cases h
    rcases un _ _ q with z | ⟨ob, kvs, e, z⟩
    · exact .base (.dK z)
    · exact .fDict z
  | dctO q l r => cases h; exact .base (.dK q)
  | _ => simp [tyName] at h
/-- isinstance(e, T), T a built-in class by its name -/
theorem e_isTy (T : String) {x : Str} {p p2 pos : Pos} {e : Expr} {S : Env → Res D} (hm : X.mg "isinstance" = none) (hm2 : X.mg x = none) (hv : bootBuiltins x = some (.type T)) (he : BOk X W e S) (hg : Gl X "isinstance" := by rfl) (hg2 : Gl X x := by rfl)
    (hn : x ≠ "__name__" := by decide) (hdb : (x == ("__debug__" : Str)) = false := by decide)
    (hs : starEach [e, .Name x p2] X.env = (false, eval e X.env) :: starEach [.Name x p2] X.env := by rfl) (hpl : (backTo pos (starEach [.Name x p2] X.env)).any (·.1) = false := by rfl) :
    EOk X W (.Call (.Name "isinstance" p) [e, .Name x p2] [] pos) (s1 (fIsTy T) S) :=
  ⟨PE.imp (pe_callB call_isi hg hm (by decide +kernel) (pa_cons he.pe (pa_cons (pe_bltn (v := .ty T) hg2 hm2 hv rfl hn hdb) pa_nil) hs) (by decide) (by decide) hs hpl) fun σ H Q ⟨P, ρ, A, st, h⟩ => ⟨P, ρ, A, st, by
    unfold s1 at h
    cases hsS : S ρ with
    | bad => simp only [hsS, Res.bind] at h
    | exc x => simp only [hsS, Res.bind] at h; exact h
    | ok d =>
      simp only [hsS, Res.bind] at h
      intro v P1 H1 B e1 r o
      cases ht : tyName d with
      | none => simp only [fIsTy, ht, Option.bind, opt] at h
      | some t =>
        cases hk : kitB t T with
        | none => simp only [fIsTy, ht, hk, Option.bind, Option.map, opt] at h
        | some b =>
          simp only [fIsTy, ht, hk, Option.bind, Option.map, opt] at h
          exact ⟨v, .ty T, .type t, .type T, b, rfl, .ty T, ty_of e1.und r ht, kit_ty hk, h _ P1 H1 [] e1 (.bl b) Fresh.nil⟩⟩⟩
/-! ### texts put together -/
def fFmt : D → Option D
  | .int i => if sml i = true then some (.str (toString i)) else none
  | .str x => if x.length ≤ sizeLine then some (.str x) else none
  | _ => none
theorem e_fmt {e : Expr} {pos : Pos} {S : Env → Res D} (he : BOk X W e S) : EOk X W (.FormattedValue e (-1) none pos) (s1 fFmt S) := ⟨PE.imp (pe_fmt he.pe) fun σ H Q ⟨P, ρ, A, st, h⟩ => ⟨P, ρ, A, st, by
  unfold s1 at h
  cases hs : S ρ with
  | bad => simp only [hs, Res.bind] at h
  | exc x => simp only [hs, Res.bind] at h; exact h
  | ok d =>
    simp only [hs, Res.bind] at h
    intro v P1 H1 B e1 r o
    cases r with
    | int i =>
      simp only [fFmt] at h
      by_cases c : sml i = true
      · rw [if_pos c] at h
        have c' := c
        simp only [sml, decide_eq_true_eq] at c'
        exact .inr ⟨i, rfl, by omega, h _ P1 H1 [] e1 (.str _) Fresh.nil⟩
      · rw [if_neg c] at h; exact h.elim
    | str x =>
      simp only [fFmt] at h
      by_cases c : x.length ≤ sizeLine
      · rw [if_pos c] at h
        exact .inl ⟨x, rfl, c, h _ P1 H1 [] e1 (.str _) Fresh.nil⟩
      · rw [if_neg c] at h; exact h.elim
    | _ => simp [fFmt, opt] at h⟩⟩
/-- the parts of an f-text -/
inductive JOk (X : Cx) (W : WX) : List Expr → List (Env → Res D) → Prop
  | nil : JOk X W [] []
  | cons {e : Expr} {S : Env → Res D} {es : List Expr} {Ss : List (Env → Res D)} : EOk X W e S → JOk X W es Ss → JOk X W (e :: es) (S :: Ss)
theorem JOk.pj : ∀ {es : List Expr} {Ss : List (Env → Res D)}, JOk X W es Ss → PJ X es (Ss.map (tE (gd X) W))
  | _, _, .nil => .nil
  | _, _, .cons h t => .cons h.pe t.pj
def jRun : List (Env → Res D) → Str → Env → Res D
  | [], acc, _ => .ok (.str acc)
  | S :: Ss, acc, ρ => (S ρ).bind fun d => match d with
    | .str y => if (acc ++ y).length ≤ sizeLine then jRun Ss (acc ++ y) ρ else .bad
    | _ => .bad
theorem j_imp : ∀ {Ss : List (Env → Res D)} {acc : Str} {σ : Sl} {H : Hp} {Q : VK}, tE (gd X) W (jRun Ss acc) σ H Q → tJs (Ss.map (tE (gd X) W)) acc σ H fun out H1 => Q (.str out) H1
  | [], acc, σ, H, Q, ⟨P, ρ, A, st, h⟩ => post_val st.und h (.str acc)
  | S :: Ss, acc, σ, H, Q, ⟨P, ρ, A, st, h⟩ => by
    refine ⟨P, ρ, A, st, ?_⟩
    simp only [jRun] at h
    cases hs : S ρ with
    | bad => simp only [hs, Res.bind] at h
    | exc x => simp only [hs, Res.bind] at h; exact h
    | ok d =>
      simp only [hs, Res.bind] at h
      intro v P1 H1 B e1 r f
      cases r with
      | str y =>
        simp only at h
        by_cases c : (acc ++ y).length ≤ sizeLine
        · rw [if_pos c] at h
          refine ⟨y, rfl, c, j_imp ⟨P1, ρ, A, st.ext e1, ?_⟩⟩
          cases hj : jRun Ss (acc ++ y) ρ with
          | bad => rw [hj] at h; exact h
          | exc x => rw [hj] at h; exact PostX.ext h st.und e1
          | ok d' => rw [hj] at h; exact Post.ext h st.und e1
        · rw [if_neg c] at h; exact h.elim
      | _ => exact (show False from h).elim
theorem e_join2 {v1 v2 : Expr} {rest : List Expr} {Ss : List (Env → Res D)} {pos : Pos} (h : JOk X W (v1 :: v2 :: rest) Ss) : EOk X W (.JoinedStr (v1 :: v2 :: rest) pos) (jRun Ss Str.empty) := ⟨PE.imp (pe_joined h.pj) fun σ H Q q => j_imp q⟩
end
end RL

/-! RL: defs by their names, constants of the module. -/
namespace RL
open PySem PySem.Spec PyProof.Rows L2
/-- the module's name x is a def that does what φ says -/
structure DefOk (P : Program) (w : World) (K : PySem.W.Frag) (mg : Str → Option Value) (base : Heap) (x : Str) (k : Nat) (ps : List Str) (φ : List D → FR) : Prop where
  ex : ∃ f fd, FnG P w K mg base k f fd ps (spF ⟨K, mg⟩ ps.length [] φ) ∧ mg x = some (.ref f) ∧ PySem.W.keepIn K (.ref f) = true ∧ Binds K fd ps []
section
variable {P : Program} {w : World} {K : PySem.W.Frag} {mg : Str → Option Value} {base : Heap}
theorem fun_of {x qual : Str} {st : Stmt} {f : Addr} {fd : FuncData} (h : FunD K x qual (defArgs st) (defBody st) (defScope st) [] [] f fd) : Fun K x qual st f fd := by
  obtain ⟨oc, od, dV, kV, doc, pm, an, cdv, ct, osl, e, l, c, dv, _⟩ := h.ex
  have e0 : dV = .none := by
    rcases dv with ⟨_, q⟩ | ⟨q, _⟩
    · exact q
    · exact absurd rfl q
  subst e0
  exact ⟨⟨oc, od, kV, doc, pm, an, cdv, ct, osl, e, l, c⟩, h.kp⟩
theorem DefOk.mk' {x qual : Str} {st : Stmt} {f : Addr} {fd : FuncData} {k : Nat} {ps : List Str} {φ : List D → FR} (F : Fun K x qual st f fd) (g : mg x = some (.ref f)) (h : FnG P w K mg base k f fd ps (spF ⟨K, mg⟩ ps.length [] φ))
    (b : ∀ (kV doc pm : Value) (an : Option Addr) (cdv ct : Value) (us : List Value), us.length = ps.length → bindArgs (PySem.W.fnOf x qual (defArgs st) (defBody st) (defScope st) .none kV doc pm an cdv ct) ⟨us, []⟩ = pure (ps.zip us)) : DefOk P w K mg base x k ps φ :=
  ⟨f, fd, h, g, F.kp, F.binds b⟩
end
section
variable {X : Cx} {W : WX} {j k : Nat} {ps : List Str} {x : Str} {φ : List D → FR} {p pos : Pos} {e : Expr} {es : List Expr}
theorem e_fn {S : Env → Res (List D)} (F : DefOk X.prog X.w X.K X.mg X.base x j ps φ) (hr : GRoom k X.A) (tk : Takes X W) (ha : AOk X W (e :: es) S) (hj : j ≤ k := by decide) (hg : Gl X x := by rfl) (hdb : (x == ("__debug__" : Str)) = false := by decide)
    (he : starEach (e :: es) X.env = (false, eval e X.env) :: starEach es X.env := by rfl) (hpl : (backTo pos (starEach es X.env)).any (·.1) = false := by rfl) : EOk X W (.Call (.Name x p) (e :: es) [] pos) (sCallF ps.length φ S) := by
  obtain ⟨f, fd, h, g, kp, b⟩ := F.ex
  exact e_call h (hr.mono hj) g kp b tk ha hg hdb he hpl
/-- -n of a written n -/
def fNeg : D → Option D
  | .int i => some (.int (-i))
  | _ => none
theorem e_neg {a : Expr} {S : Env → Res D} (ha : BOk X W a S) : EOk X W (.UnaryOp .USub a pos) (s1 fNeg S) := ⟨PE.imp (pe_un un_neg ha.pe) fun σ H Q ⟨P, ρ, A, st, h⟩ => ⟨P, ρ, A, st, by
  unfold s1 at h
  cases hs : S ρ with
  | bad => simp only [hs, Res.bind] at h
  | exc x => simp only [hs, Res.bind] at h; exact h
  | ok d =>
    simp only [hs, Res.bind] at h
    intro v P1 H1 B e1 r o
    cases r with
    | int i => simp only [fNeg, opt] at h; exact ⟨i, rfl, h _ P1 H1 [] e1 (.int _) Fresh.nil⟩
    | _ => simp [fNeg, opt] at h⟩⟩
theorem e_globI {i : Int} (hm : ∃ t, X.mg x = some (.int i t)) (hg : Gl X x := by rfl) (hd : (x == ("__debug__" : Str)) = false := by decide) : EOk X W (.Name x p) (sC (.int i)) := by
  obtain ⟨t, h⟩ := hm
  exact e_val (pe_glob (v := .int i) hg h ⟨t, rfl⟩ hd) fun _ _ => .int i
theorem e_globS {i : Str} (hm : ∃ t, X.mg x = some (.str i t)) (hg : Gl X x := by rfl) (hd : (x == ("__debug__" : Str)) = false := by decide) : EOk X W (.Name x p) (sC (.str i)) := by
  obtain ⟨t, h⟩ := hm
  exact e_val (pe_glob (v := .str i) hg h ⟨t, rfl⟩ hd) fun _ _ => .str i
/-- a < b < c, b reckoned once -/
def sChain (f g : D → D → Option D) (Sa Sb Sc : Env → Res D) : Env → Res D := fun ρ => (Sa ρ).bind fun x => (Sb ρ).bind fun y => (opt (f x y)).bind fun z => (asB z).bind fun k => if k = true then (Sc ρ).bind fun u => opt (g y u) else .ok (.bl false)
theorem chain_imp {f g : D → D → Option D} {Sa Sb Sc : Env → Res D} {r r' : R2} (hf : ∀ x y H Q, rD (gd X) f x y H Q → r x y H Q) (hg : ∀ x y H Q, rD (gd X) g x y H Q → r' x y H Q) {σ : Sl} {H : Hp} {Q : VK} (h : tE (gd X) W (sChain f g Sa Sb Sc) σ H Q) :
    tChain r r' (tBo (gd X) W Sa) (tBo (gd X) W Sb) (tBo (gd X) W Sc) σ H Q := by
  obtain ⟨P, ρ, A, st, h⟩ := h
  refine ⟨P, ρ, A, st, ?_⟩
  unfold sChain at h
  cases ha : Sa ρ with
  | bad => simp only [ha, Res.bind] at h
  | exc x => simp only [ha, Res.bind] at h; exact h
  | ok dx =>
    simp only [ha, Res.bind] at h
    intro v P1 H1 B1 e1 r1 o1
    refine ⟨P1, ρ, A, st.ext e1, ?_⟩
    cases hb : Sb ρ with
    | bad => simp only [hb] at h
    | exc x => simp only [hb] at h; exact PostX.ext h st.und e1
    | ok dy =>
      simp only [hb] at h
      intro v2 P2 H2 B2 e2 r2 o2
      cases hz : f dx dy with
      | none => simp only [hz, opt] at h
      | some dz =>
        simp only [hz, opt] at h
        refine hf _ _ _ _ ⟨P2, dx, dy, B1, B2, e2.und, r1.ext e2 o1, r2, (e2.own r1.at o1).2, o2, ?_⟩
        rw [hz]
        intro v3 P3 H3 B3 e3 r3 f3
        have e13 := (e1.trans st.und e2).trans st.und e3
        cases dz with
        | bl k =>
          cases r3
          refine ⟨k, rfl, ?_⟩
          cases k with
          | false =>
            simp only [asB, Bool.false_eq_true, if_false] at h ⊢
            exact h _ P3 H3 [] e13 (.bl false) Fresh.nil
          | true =>
            simp only [asB, if_true] at h ⊢
            refine ⟨P3, ρ, A, st.ext e13, ?_⟩
            cases hc : Sc ρ with
            | bad => simp only [hc] at h
            | exc x => simp only [hc] at h; exact PostX.ext h st.und e13
            | ok du =>
              simp only [hc] at h
              intro v4 P4 H4 B4 e4 r4 o4
              have r2' := (r2.ext e3 o2).ext e4 (e3.own r2.at o2).2
              refine hg _ _ _ _ ⟨P4, dy, du, B2, B4, e4.und, r2', r4, (e4.own (r2.ext e3 o2).at (e3.own r2.at o2).2).2, o4, ?_⟩
              cases hw : g dy du with
              | none => simp only [hw, opt] at h
              | some d => simp only [hw, opt] at h; exact Post.ext h st.und (e13.trans st.und e4)
        | _ => simp [asB] at h
theorem e_chain {a b c : Expr} {op op' : CmpOp} {f g : D → D → Option D} {Sa Sb Sc : Env → Res D} (ho : OpR X (compareOp op) (rD (gd X) f)) (ho' : OpR X (compareOp op') (rD (gd X) g)) (ha : BOk X W a Sa) (hb : BOk X W b Sb) (hc : BOk X W c Sc)
    (hm : lastMarks [op, op'] [b, c] = false := by with_unfolding_all rfl) : EOk X W (.Compare a [op, op'] [b, c] pos) (sChain f g Sa Sb Sc) :=
  ⟨PE.imp (pe_chain ho ho' ha.pe hb.pe hc.pe hm) fun _ _ _ => chain_imp (fun _ _ _ _ h => h) fun _ _ _ _ h => h⟩
theorem t_chain {a b c : Expr} {op op' : CmpOp} {f g : D → D → Option D} {Sa Sb Sc : Env → Res D} (ho : OpR X (compareOp op) (rD (gd X) f)) (ho' : OpR X (compareOp op') (rD (gd X) g)) (ha : BOk X W a Sa) (hb : BOk X W b Sb) (hc : BOk X W c Sc)
    (hm : lastMarks [op, op'] [b, c] = false := by with_unfolding_all rfl) : TOk X W (.Compare a [op, op'] [b, c] pos) (sTest (sChain f g Sa Sb Sc)) :=
  ⟨PT.imp (pt_chain ho ho' ha.pe hb.pe hc.pe hm) fun _ _ _ h => chain_imp (fun _ _ _ _ h => h) (fun _ _ _ _ h => h) (test_of h)⟩
end
end RL

/-! RL, rules to compute meanings with. -/
namespace RL
open PySem PySem.Spec PyProof.Rows L2
section
variable {α β : Type}
@[simp] theorem bind_ok {a : α} {f : α → Res β} : (Res.ok a).bind f = f a := rfl
@[simp] theorem bind_exc {x : D} {f : α → Res β} : (Res.exc x : Res α).bind f = .exc x := rfl
@[simp] theorem bind_bad {f : α → Res β} : (Res.bad : Res α).bind f = .bad := rfl
@[simp] theorem opt_some {a : α} : opt (some a) = .ok a := rfl
@[simp] theorem asB_bl {b : Bool} : asB (.bl b) = .ok b := rfl
@[simp] theorem asI_int {i : Int} : asI (.int i) = .ok i := rfl
@[simp] theorem on1_ap {f : D → Option D} {d : D} : on1 f [d] = f d := rfl
@[simp] theorem on2_ap {f : D → D → Option D} {d e : D} : on2 f [d, e] = f d e := rfl
end
section
variable {ρ : Env}
@[simp] theorem sVarB_ap {i : Nat} {d : D} (h : ρ[i]? = some (some d)) : sVarB i ρ = .ok d := by simp [sVarB, h]
@[simp] theorem sCl_ap {S : Env → Res D} : sCl S ρ = (S ρ).bind fun d => if d.clean = true then .ok d else .bad := rfl
@[simp] theorem sVar_ap {i : Nat} {d : D} (h : ρ[i]? = some (some d)) : sVar i ρ = if d.clean = true then .ok d else .bad := by simp [sVar, h]
@[simp] theorem sC_ap {d : D} : sC d ρ = .ok d := rfl
@[simp] theorem s2_ap {f : D → D → Option D} {Sa Sb : Env → Res D} : s2 f Sa Sb ρ = (Sa ρ).bind fun x => (Sb ρ).bind fun y => opt (f x y) := rfl
@[simp] theorem s1_ap {f : D → Option D} {S : Env → Res D} : s1 f S ρ = (S ρ).bind fun d => opt (f d) := rfl
@[simp] theorem sTest_ap {S : Env → Res D} : sTest S ρ = (S ρ).bind asB := rfl
@[simp] theorem sNot_ap {S : Env → Res Bool} : sNot S ρ = (S ρ).bind fun b => .ok (!b) := rfl
@[simp] theorem sAndT_ap {S T : Env → Res Bool} : sAndT S T ρ = (S ρ).bind fun b => if b = true then T ρ else .ok false := rfl
@[simp] theorem sOrT_ap {S T : Env → Res Bool} : sOrT S T ρ = (S ρ).bind fun b => if b = true then .ok true else T ρ := rfl
@[simp] theorem sIf_ap {C : Env → Res Bool} {Sa Sb : Env → Res D} : sIf C Sa Sb ρ = (C ρ).bind fun k => if k = true then Sa ρ else Sb ρ := rfl
@[simp] theorem sB_ap {S : Env → Res Bool} : sB S ρ = (S ρ).bind fun b => .ok (.bl b) := rfl
@[simp] theorem sNotV_ap {S : Env → Res D} : sNotV S ρ = sB (sNot (sTest S)) ρ := rfl
@[simp] theorem sAnd_ap {Sa Sb : Env → Res D} : sAnd Sa Sb ρ = (Sa ρ).bind fun x => (asB x).bind fun k => if k = true then Sb ρ else .ok (.bl false) := rfl
@[simp] theorem sOr_ap {Sa Sb : Env → Res D} : sOr Sa Sb ρ = (Sa ρ).bind fun x => (asB x).bind fun k => if k = true then .ok (.bl true) else Sb ρ := rfl
@[simp] theorem sNil_ap : sNil ρ = .ok [] := rfl
@[simp] theorem sCons_ap {S : Env → Res D} {T : Env → Res (List D)} : sCons S T ρ = (S ρ).bind fun d => (T ρ).bind fun ds => .ok (d :: ds) := rfl
@[simp] theorem sIx_ap {Sa Sb : Env → Res D} : sIx Sa Sb ρ = (Sa ρ).bind fun x => (Sb ρ).bind fun y => opt (opIx x y) := rfl
@[simp] theorem sPn_ap : sPn ρ = .ok none := rfl
@[simp] theorem sPs_ap {S : Env → Res D} : sPs S ρ = (S ρ).bind fun d => (asI d).bind fun i => .ok (some i) := rfl
@[simp] theorem sSl_ap {S : Env → Res D} {L U : Env → Res (Option Int)} : sSl S L U ρ = (S ρ).bind fun d => (L ρ).bind fun lo => (U ρ).bind fun hi => opt (opSl d lo hi) := rfl
@[simp] theorem sTup_ap {S : Env → Res (List D)} : sTup S ρ = (S ρ).bind fun ds => if ds.length ≤ sizeLine then .ok (.tup ds) else .bad := rfl
@[simp] theorem sLst_ap {S : Env → Res (List D)} : sLst S ρ = (S ρ).bind fun ds => if ds.length ≤ sizeLine then .ok (.lst true ds) else .bad := rfl
@[simp] theorem sCall_ap {f : List D → Option D} {S : Env → Res (List D)} : sCall f S ρ = (S ρ).bind fun ds => opt (f ds) := rfl
@[simp] theorem sSeq_ap {S : Env → Res D} : sSeq S ρ = (S ρ).bind fun d => opt (seqD d) := rfl
@[simp] theorem sI_ap {f : List D → Option (List D)} {S : Env → Res (List D)} : sI f S ρ = (S ρ).bind fun ds => opt (f ds) := rfl
@[simp] theorem sYes_ap : sYes ρ = .ok true := rfl
@[simp] theorem jRun_nil {acc : Str} : jRun [] acc ρ = .ok (.str acc) := rfl
@[simp] theorem jRun_cons {S : Env → Res D} {Ss : List (Env → Res D)} {acc : Str} : jRun (S :: Ss) acc ρ = (S ρ).bind fun d => match d with
    | .str y => if (acc ++ y).length ≤ sizeLine then jRun Ss (acc ++ y) ρ else .bad
    | _ => .bad := rfl
@[simp] theorem sChain_ap {f g : D → D → Option D} {Sa Sb Sc : Env → Res D} : sChain f g Sa Sb Sc ρ = (Sa ρ).bind fun x => (Sb ρ).bind fun y => (opt (f x y)).bind fun z => (asB z).bind fun k => if k = true then (Sc ρ).bind fun u => opt (g y u) else .ok (.bl false) := rfl
/-- what a call answers -/
def FR.res : FR → Res D
  | .ok d _ => .ok d
  | .exc x _ => .exc x
  | .bad => .bad
@[simp] theorem res_ok {d : D} {os : List D} : (FR.ok d os).res = .ok d := rfl
@[simp] theorem res_exc {d : D} {os : List D} : (FR.exc d os).res = .exc d := rfl
@[simp] theorem sCallF_ap {n : Nat} {φ : List D → FR} {S : Env → Res (List D)} : sCallF n φ S ρ = (S ρ).bind fun ds => if ds.length = n then (φ (frzL ds)).res else .bad := by
  unfold sCallF
  cases S ρ with
  | ok ds => simp only [bind_ok]; split <;> first | rfl | (cases φ (frzL ds) <;> rfl)
  | _ => rfl
/-! statements -/
@[simp] theorem sNext_ap : sNext ρ = .nx ρ := rfl
@[simp] theorem sBreak_ap : sBreak ρ = .bk ρ := rfl
@[simp] theorem sRetN_ap : sRetN ρ = .rt .non ρ := rfl
/-- what comes after -/
def SRes.andThen (r : SRes) (T : Env → SRes) : SRes := match r with
  | .nx ρ' => T ρ'
  | .rt d ρ' => .rt d ρ'
  | .bk ρ' => .bk ρ'
  | .exc x ρ' => .exc x ρ'
  | .bad => .bad
@[simp] theorem andThen_nx {T : Env → SRes} : (SRes.nx ρ).andThen T = T ρ := rfl
@[simp] theorem andThen_rt {T : Env → SRes} {d : D} : (SRes.rt d ρ).andThen T = .rt d ρ := rfl
@[simp] theorem andThen_bk {T : Env → SRes} : (SRes.bk ρ).andThen T = .bk ρ := rfl
@[simp] theorem andThen_exc {T : Env → SRes} {d : D} : (SRes.exc d ρ).andThen T = .exc d ρ := rfl
@[simp] theorem sThen_ap {S T : Env → SRes} : sThen S T ρ = (S ρ).andThen T := by
  unfold sThen SRes.andThen
  cases S ρ <;> rfl
def Res.stm {α : Type} (r : Res α) (ρ : Env) (k : α → SRes) : SRes := match r with
  | .ok a => k a
  | .exc x => .exc x ρ
  | .bad => .bad
@[simp] theorem stm_ok {α : Type} {a : α} {k : α → SRes} : (Res.ok a).stm ρ k = k a := rfl
@[simp] theorem stm_exc {α : Type} {x : D} {k : α → SRes} : (Res.exc x : Res α).stm ρ k = .exc x ρ := rfl
def put (o : Option Env) : SRes := match o with
  | some ρ' => .nx ρ'
  | none => .bad
@[simp] theorem put_some {ρ : Env} : put (some ρ) = .nx ρ := rfl
@[simp] theorem sAsg_ap {t : Tg} {f : Bool} {S : Env → Res D} : sAsg t f S ρ = (S ρ).stm ρ fun d => put (t.set (if f then d.frz else d) ρ) := by
  unfold sAsg Res.stm put
  cases S ρ <;> rfl
@[simp] theorem sPar_ap {i j : Nat} {S : Env → Res (List D)} {d e : D} (h : S ρ = .ok [d, e]) : sPar i j S ρ = put ((Tg.tp [.nm i, .nm j]).set (.tup [d, e]) ρ) := by
  unfold sPar put
  simp only [h]
  all_goals (split <;> rename_i e <;> rw [e])
@[simp] theorem sRet_ap {S : Env → Res D} : sRet S ρ = (S ρ).stm ρ fun d => .rt d ρ := by
  unfold sRet Res.stm
  cases S ρ <;> rfl
@[simp] theorem sExpr_ap {S : Env → Res D} : sExpr S ρ = (S ρ).stm ρ fun _ => .nx ρ := by
  unfold sExpr Res.stm
  cases S ρ <;> rfl
@[simp] theorem sRetV_ap {i : Nat} {d : D} (h : ρ[i]? = some (some d)) : sRetV i ρ = .rt d (ρ.set i none) := by simp [sRetV, h]
@[simp] theorem sFrz_ap {i : Nat} {S : Env → SRes} {d : D} (h : ρ[i]? = some (some d)) : sFrz i S ρ = S (ρ.set i (some d.frz)) := by simp [sFrz, h]
@[simp] theorem sIfS_ap {C : Env → Res Bool} {S T : Env → SRes} : sIfS C S T ρ = (C ρ).stm ρ fun b => if b = true then S ρ else T ρ := by
  unfold sIfS Res.stm
  cases C ρ with
  | ok b => cases b <;> rfl
  | _ => rfl
@[simp] theorem sFor_ap {Si : Env → Res (List D)} {t : Tg} {S : Env → SRes} : sFor Si t S ρ = (Si ρ).stm ρ fun ds => forRun t S ds ρ := by
  unfold sFor Res.stm
  cases Si ρ <;> rfl
/-- the end of a run -/
def endF (L : List Nat) : SRes → FR
  | .nx ρ => (match outsOf L ρ with | some os => .ok .non os | none => .bad)
  | .rt d ρ => (match outsOf L ρ with | some os => .ok d os | none => .bad)
  | .exc x ρ => (match outsOf L ρ with | some os => .exc x os | none => .bad)
  | _ => .bad
theorem runDef_ap {n : Nat} {L : List Nat} {S : Env → SRes} {ds : List D} : runDef n L S ds = endF L (S (entry n ds)) := by
  unfold runDef endF
  cases S (entry n ds) <;> rfl
@[simp] theorem endF_rt0 {d : D} {ρ : Env} : endF [] (.rt d ρ) = .ok d [] := rfl
@[simp] theorem endF_nx0 {ρ : Env} : endF [] (.nx ρ) = .ok .non [] := rfl
@[simp] theorem endF_ex0 {d : D} {ρ : Env} : endF [] (.exc d ρ) = .exc d [] := rfl
@[simp] theorem tg_nm {i : Nat} {d : D} (h : i < ρ.length) : (Tg.nm i).set d ρ = some (ρ.set i (some d)) := by simp [Tg.set, h]
@[simp] theorem tg_tp {ts : List Tg} {ds : List D} : (Tg.tp ts).set (.tup ds) ρ = tgSetL ts ds ρ := by simp [Tg.set]
@[simp] theorem tgL_nil : tgSetL [] [] ρ = some ρ := by simp [tgSetL]
@[simp] theorem tgL_cons {t : Tg} {ts : List Tg} {d : D} {ds : List D} : tgSetL (t :: ts) (d :: ds) ρ = (t.set d ρ).bind (tgSetL ts ds) := by simp [tgSetL]
@[simp] theorem forRun_nil {t : Tg} {S : Env → SRes} : forRun t S [] ρ = .nx ρ := rfl
/-- a step of a loop -/
def loopK (r : SRes) (k : Env → SRes) : SRes := match r with
  | .nx ρ => k ρ
  | .bk ρ => .nx ρ
  | .rt d ρ => .rt d ρ
  | .exc x ρ => .exc x ρ
  | .bad => .bad
@[simp] theorem loopK_nx {k : Env → SRes} : loopK (.nx ρ) k = k ρ := rfl
@[simp] theorem loopK_bk {k : Env → SRes} : loopK (.bk ρ) k = .nx ρ := rfl
@[simp] theorem loopK_rt {k : Env → SRes} {d : D} : loopK (.rt d ρ) k = .rt d ρ := rfl
theorem forRun_cons {t : Tg} {S : Env → SRes} {d : D} {ds : List D} : forRun t S (d :: ds) ρ = (put (t.set d ρ)).andThen fun ρ1 => loopK (S ρ1) (forRun t S ds) := by
  rw [forRun]
  cases t.set d ρ with
  | none => rfl
  | some ρ1 =>
    simp only [put_some, SRes.andThen, loopK]
    cases S ρ1 <;> rfl
theorem while_go {C : Env → Res Bool} {S : Env → SRes} {n : Nat} (h : C ρ = .ok true) : whileRun C S (n + 1) ρ = loopK (S ρ) (whileRun C S n) := by
  rw [whileRun, h]
  unfold loopK
  cases S ρ <;> rfl
theorem while_stop {C : Env → Res Bool} {S : Env → SRes} {n : Nat} (h : C ρ = .ok false) : whileRun C S (n + 1) ρ = .nx ρ := by
  rw [whileRun, h]
end
/-! whole numbers -/
def Bd (k : Nat) (x : Int) : Prop := x.natAbs < 2 ^ k
theorem Bd.mono {j k : Nat} {x : Int} (h : Bd j x) (q : j ≤ k) : Bd k x := Nat.lt_of_lt_of_le h (Nat.pow_le_pow_right (by decide) q)
theorem Bd.mul {j k : Nat} {x y : Int} (h : Bd j x) (q : Bd k y) : Bd (j + k) (x * y) := by
  unfold Bd at *
  rw [Int.natAbs_mul, Nat.pow_add]
  exact Nat.mul_lt_mul'' h q
theorem Bd.add {k : Nat} {x y : Int} (h : Bd k x) (q : Bd k y) : Bd (k + 1) (x + y) := by
  unfold Bd at *
  have := Int.natAbs_add_le x y
  rw [Nat.pow_succ]
  omega
theorem Bd.neg {k : Nat} {x : Int} (h : Bd k x) : Bd k (-x) := by
  unfold Bd at *
  rwa [Int.natAbs_neg]
theorem Bd.sub {k : Nat} {x y : Int} (h : Bd k x) (q : Bd k y) : Bd (k + 1) (x - y) := by
  rw [Int.sub_eq_add_neg]
  exact h.add q.neg
theorem Bd.sml {k : Nat} {x : Int} (h : Bd k x) (q : k ≤ 1900) : sml x = true := by
  have h' := h.mono q
  unfold Bd at h'
  unfold RL.sml
  rw [decide_eq_true_eq]
  by_cases e : x.natAbs = 0
  · rw [e]; decide
  · exact (Nat.log2_lt e).mpr h'
theorem Bd.mulOk {j k : Nat} {x y : Int} (h : Bd j x) (q : Bd k y) (hj : j ≤ 1900) (hk : k ≤ 1900) : mulOk x y = true := by
  unfold RL.mulOk
  rw [h.sml hj, q.sml hk]
  simp
theorem Bd.of_le {k : Nat} {x y : Int} (h : Bd k y) (q : x.natAbs ≤ y.natAbs) : Bd k x := Nat.lt_of_le_of_lt q h
@[simp] theorem opAdd_i {i j : Int} : opAdd (.int i) (.int j) = some (.int (i + j)) := rfl
@[simp] theorem opSub_i {i j : Int} : opSub (.int i) (.int j) = some (.int (i - j)) := rfl
@[simp] theorem opLt_i {i j : Int} : opLt (.int i) (.int j) = some (.bl (decide (i < j))) := rfl
@[simp] theorem opLe_i {i j : Int} : opLe (.int i) (.int j) = some (.bl (decide (i ≤ j))) := rfl
@[simp] theorem opGt_i {i j : Int} : opGt (.int i) (.int j) = some (.bl (decide (j < i))) := rfl
@[simp] theorem opGe_i {i j : Int} : opGe (.int i) (.int j) = some (.bl (decide (j ≤ i))) := rfl
@[simp] theorem fNeg_i {i : Int} : fNeg (.int i) = some (.int (-i)) := rfl
theorem opMul_i {i j : Int} (h : mulOk i j = true) : opMul (.int i) (.int j) = some (.int (i * j)) := by simp [opMul, h]
theorem opFdiv_i {i j : Int} (h : j ≠ 0) (q : sml j = true) : opFdiv (.int i) (.int j) = some (.int (i.fdiv j)) := by simp [opFdiv, h, q]
theorem opMod_i {i j : Int} (h : j ≠ 0) : opMod (.int i) (.int j) = some (.int (i.fmod j)) := by simp [opMod, h]
@[simp] theorem clean_i {i : Int} : (D.int i).clean = true := rfl
@[simp] theorem clean_s {i : Str} : (D.str i).clean = true := rfl
@[simp] theorem clean_b {i : Bool} : (D.bl i).clean = true := rfl
@[simp] theorem clean_n : D.non.clean = true := rfl
@[simp] theorem clean_t {ds : List D} : (D.tup ds).clean = cleanL ds := by simp [D.clean]
@[simp] theorem clean_nil : cleanL [] = true := by simp [cleanL]
@[simp] theorem clean_cons {d : D} {ds : List D} : cleanL (d :: ds) = (d.clean && cleanL ds) := by simp [cleanL]
@[simp] theorem clean_l {ds : List D} : (D.lst false ds).clean = cleanL ds := by simp [D.clean]
@[simp] theorem clean_d {ks : List Key} {ds : List D} : (D.dct false ks ds).clean = cleanL ds := by simp [D.clean]
@[simp] theorem clean_scr {ns : List Int} : (D.scr ns).clean = true := rfl
theorem cleanL_all : ∀ {ds : List D}, cleanL ds = true ↔ ∀ d ∈ ds, d.clean = true
  | [] => by simp
  | d :: ds => by simp [cleanL, cleanL_all (ds := ds)]
@[simp] theorem cleanL_app {ds es : List D} : cleanL (ds ++ es) = (cleanL ds && cleanL es) := by
  induction ds with
  | nil => simp
  | cons d ds ih => simp [cleanL, ih, Bool.and_assoc]
@[simp] theorem cleanL_ints {ns : List Int} : cleanL (ns.map .int) = true := cleanL_all.mpr fun d hd => by
  obtain ⟨i, _, rfl⟩ := List.mem_map.mp hd
  rfl
@[simp] theorem frzL_ints : ∀ {ns : List Int}, frzL (ns.map .int) = ns.map .int
  | [] => by simp [frzL]
  | n :: ns => by simp [frzL, D.frz, frzL_ints (ns := ns)]
@[simp] theorem seqD_l {o : Bool} {ds : List D} (h : cleanL ds = true) : seqD (.lst o ds) = some ds := by simp [seqD, h]
@[simp] theorem seqD_t {ds : List D} (h : cleanL ds = true) : seqD (.tup ds) = some ds := by simp [seqD, h]
@[simp] theorem seqD_scr {ns : List Int} : seqD (.scr ns) = some (ns.map .int) := rfl
@[simp] theorem lstD_l {o : Bool} {ds : List D} (h : cleanL ds = true) : lstD (.lst o ds) = some ds := by simp [lstD, h]
@[simp] theorem lstD_scr {ns : List Int} : lstD (.scr ns) = some (ns.map .int) := rfl
@[simp] theorem fLen_l {o : Bool} {ds : List D} : fLen (.lst o ds) = some (.int ds.length) := rfl
@[simp] theorem fLen_t {ds : List D} : fLen (.tup ds) = some (.int ds.length) := rfl
@[simp] theorem fLen_scr {ns : List Int} : fLen (.scr ns) = some (.int ns.length) := rfl
@[simp] theorem frz_i {i : Int} : (D.int i).frz = .int i := rfl
@[simp] theorem frz_s {i : Str} : (D.str i).frz = .str i := rfl
@[simp] theorem frz_b {i : Bool} : (D.bl i).frz = .bl i := rfl
@[simp] theorem frz_n : D.non.frz = .non := rfl
@[simp] theorem frz_scr {ns : List Int} : (D.scr ns).frz = .scr ns := rfl
@[simp] theorem frz_t {ds : List D} : (D.tup ds).frz = .tup (frzL ds) := by simp [D.frz]
@[simp] theorem frz_l {o : Bool} {ds : List D} : (D.lst o ds).frz = .lst false (frzL ds) := by simp [D.frz]
@[simp] theorem frzL_nil : frzL [] = [] := by simp [frzL]
@[simp] theorem frzL_cons {d : D} {ds : List D} : frzL (d :: ds) = d.frz :: frzL ds := by simp [frzL]
theorem mulOk_l {i j : Int} (h : -(2 ^ 64) < i) (h' : i < 2 ^ 64) : mulOk i j = true := by
  unfold RL.mulOk
  rw [decide_eq_true (p := -(2 ^ 64) < i ∧ i < 2 ^ 64) ⟨h, h'⟩]
  simp
theorem mulOk_r {i j : Int} (h : -(2 ^ 64) < j) (h' : j < 2 ^ 64) : mulOk i j = true := by
  unfold RL.mulOk
  rw [decide_eq_true (p := -(2 ^ 64) < j ∧ j < 2 ^ 64) ⟨h, h'⟩]
  simp
end RL
namespace RL
open PySem PySem.Spec PyProof.Rows L2
theorem atI_nat {α : Type} {xs : List α} (k : Nat) : atI xs (k : Int) = xs[k]? := by
  unfold atI ixN
  by_cases h : k < xs.length
  · have h' : (k : Int) < xs.length := by omega
    have h2 : (0 : Int) ≤ k := by omega
    simp [h', h2]
  · have h' : ¬ (k : Int) < xs.length := by omega
    have h2 : (0 : Int) ≤ k := by omega
    simp [h', h2]
    omega
@[simp] theorem atI_0 {α : Type} {a : α} {l : List α} : atI (a :: l) 0 = some a := atI_nat 0
@[simp] theorem atI_1 {α : Type} {a b : α} {l : List α} : atI (a :: b :: l) 1 = some b := atI_nat 1
@[simp] theorem atI_2 {α : Type} {a b c : α} {l : List α} : atI (a :: b :: c :: l) 2 = some c := atI_nat 2
@[simp] theorem atI_3 {α : Type} {a b c d : α} {l : List α} : atI (a :: b :: c :: d :: l) 3 = some d := atI_nat 3
@[simp] theorem opIx_t {ds : List D} {i : Int} : opIx (.tup ds) (.int i) = atI ds i := rfl
@[simp] theorem opIx_l {o : Bool} {ds : List D} {i : Int} : opIx (.lst o ds) (.int i) = atI ds i := rfl
@[simp] theorem opEq_i {i j : Int} : opEq (.int i) (.int j) = some (.bl (decide (i = j))) := by
  simp [opEq, strs?, D.fit, fitN, D.py, PyData.eqv]
  rfl
@[simp] theorem opNe_i {i j : Int} : opNe (.int i) (.int j) = some (.bl (!decide (i = j))) := by
  simp [opNe, strs?, D.fit, fitN, D.py, PyData.eqv]
  rfl
@[simp] theorem opEq_s {i j : Str} : opEq (.str i) (.str j) = some (.bl (decide (i = j))) := rfl
@[simp] theorem opNe_s {i j : Str} : opNe (.str i) (.str j) = some (.bl (!decide (i = j))) := rfl
theorem eqvAll_same : ∀ {ds : List D}, (∀ d ∈ ds, PyData.eqv d.py d.py = true) → PyData.eqvAll (pyL ds) (pyL ds) = true
  | [], _ => by simp [pyL, PyData.eqvAll]
  | d :: ds, h => by
    simp only [pyL, PyData.eqvAll, h d List.mem_cons_self, Bool.true_and]
    exact eqvAll_same fun e he => h e (List.mem_cons_of_mem _ he)
theorem eqv_same : ∀ {n : Nat} {d : D}, fitN n d = true → PyData.eqv d.py d.py = true
  | n, .non, _ => by simp [D.py, PyData.eqv]
  | n, .bl b, _ => by simp [D.py, PyData.eqv]
  | n, .int b, _ => by simp [D.py, PyData.eqv]
  | n, .str x, h => by simp [D.py, PyData.eqv]
  | 0, .tup ds, h => by simp [fitN] at h
  | n + 1, .tup ds, h => by
    have h' : ∀ d ∈ ds, fitN n d = true := by simpa [fitN] using h
    simp only [D.py, PyData.eqv]
    exact eqvAll_same fun d hd => eqv_same (h' d hd)
  | 0, .lst _ ds, h => by simp [fitN] at h
  | n + 1, .lst _ ds, h => by
    have h' : ∀ d ∈ ds, fitN n d = true := by simpa [fitN] using h
    simp only [D.py, PyData.eqv]
    exact eqvAll_same fun d hd => eqv_same (h' d hd)
  | 0, .dct _ _ _, h => by simp [fitN] at h
  | n + 1, .dct _ _ _, h => by simp [fitN] at h
  | 0, .obj _ _ _ _, h => by simp [fitN] at h
  | n + 1, .obj _ _ _ _, h => by simp [fitN] at h
  | 0, .exn _ _ _, h => by simp [fitN] at h
  | n + 1, .exn _ _ _, h => by simp [fitN] at h
  | 0, .scr _, h => by simp [fitN] at h
  | n + 1, .scr _, h => by simp [fitN] at h
theorem strs_non {x y : D} (h : ∀ s, x ≠ .str s) : strs? x y = none := by
  cases x <;> first | rfl | exact absurd rfl (h _)
/-- data that look alike are equal -/
theorem opEq_same {x y : D} (hx : x.fit = true) (hy : y.fit = true) (h : x.py = y.py) : opEq x y = some (.bl true) := by
  unfold opEq
  cases e : strs? x y with
  | none =>
    simp only [hx, hy, and_self, if_true]
    have := eqv_same hx
    rw [← h, this]
  | some b =>
    cases x <;> cases y <;> simp [strs?] at e
    simp [D.py] at h
    simp [← e, h]
theorem opNe_same {x y : D} (hx : x.fit = true) (hy : y.fit = true) (h : x.py = y.py) : opNe x y = some (.bl false) := by
  unfold opNe
  cases e : strs? x y with
  | none =>
    simp only [hx, hy, and_self, if_true]
    have := eqv_same hx
    rw [← h, this]
    rfl
  | some b =>
    cases x <;> cases y <;> simp [strs?] at e
    simp [D.py] at h
    simp [← e, h]
theorem fRepr_ok {d : D} (h : repOk d = true) : fRepr [d] = some (.str d.py.shown) := by simp [fRepr, h]
end RL

/-! RL, fractions in lowest terms. -/
namespace RL
open PySem PySem.Spec PyProof.Rows L2
def lowN (a b : Int) : Int := b.sign * a / (Int.gcd a b : Int)
def lowD (a b : Int) : Int := b.sign * b / (Int.gcd a b : Int)
theorem gcd_pos {a b : Int} (h : b ≠ 0) : 0 < (Int.gcd a b : Int) := by
  have : 0 < Int.gcd a b := Int.gcd_pos_of_ne_zero_right a h
  omega
theorem low_scale {a b k : Int} (hk : k ≠ 0) (hb : b ≠ 0) : lowN (a * k) (b * k) = lowN a b ∧ lowD (a * k) (b * k) = lowD a b := by
  have e : (Int.gcd (a * k) (b * k) : Int) = (k.natAbs : Int) * (Int.gcd a b : Int) := by
    rw [Int.gcd_mul_right, Int.natCast_mul, Int.mul_comm]
  have hk' : (0 : Int) < k.natAbs := by omega
  have s : k.sign * k = k.natAbs := Int.sign_mul_self k
  constructor
  · unfold lowN
    rw [e, Int.sign_mul, show b.sign * k.sign * (a * k) = (k.natAbs : Int) * (b.sign * a) by rw [← s]; ac_rfl, Int.mul_ediv_mul_of_pos _ _ hk']
  · unfold lowD
    rw [e, Int.sign_mul, show b.sign * k.sign * (b * k) = (k.natAbs : Int) * (b.sign * b) by rw [← s]; ac_rfl, Int.mul_ediv_mul_of_pos _ _ hk']
theorem low_eq {a b c d : Int} (hb : b ≠ 0) (hd : d ≠ 0) (h : a * d = c * b) : lowN a b = lowN c d ∧ lowD a b = lowD c d := by
  have p := low_scale (a := a) (b := b) hd hb
  have q := low_scale (a := c) (b := d) hb hd
  rw [h, Int.mul_comm b d] at p
  exact ⟨p.1.symm.trans q.1, p.2.symm.trans q.2⟩
theorem sg {b : Int} (h : b ≠ 0) : b.sign = 1 ∨ b.sign = -1 := by
  rcases Int.lt_trichotomy b 0 with q | q | q
  · exact .inr (Int.sign_eq_neg_one_of_neg q)
  · exact absurd q h
  · exact .inl (Int.sign_eq_one_of_pos q)
theorem low_dvd (a b : Int) : (Int.gcd a b : Int) ∣ b.sign * a ∧ (Int.gcd a b : Int) ∣ b.sign * b := ⟨Int.dvd_mul_of_dvd_right (Int.gcd_dvd_left ..), Int.dvd_mul_of_dvd_right (Int.gcd_dvd_right ..)⟩
theorem low_mul (a b : Int) : lowN a b * (Int.gcd a b : Int) = b.sign * a ∧ lowD a b * (Int.gcd a b : Int) = b.sign * b := ⟨Int.ediv_mul_cancel (low_dvd a b).1, Int.ediv_mul_cancel (low_dvd a b).2⟩
theorem low_pos {a b : Int} (h : b ≠ 0) : 0 < lowD a b := by
  have p := (low_mul a b).2
  have g := gcd_pos (a := a) h
  have q : 0 < b.sign * b := by rw [Int.sign_mul_self]; omega
  rw [← p] at q
  exact Int.pos_of_mul_pos_left q g
theorem low_cross {a b : Int} (h : b ≠ 0) : lowN a b * b = a * lowD a b := by
  have p := low_mul a b
  have g := gcd_pos (a := a) h
  have e : lowN a b * b * (Int.gcd a b : Int) = a * lowD a b * (Int.gcd a b : Int) := by
    rw [Int.mul_right_comm, p.1, Int.mul_assoc a, p.2]
    ac_rfl
  exact Int.eq_of_mul_eq_mul_right (by omega) e
theorem low_low {a b : Int} (h : b ≠ 0) : lowN (lowN a b) (lowD a b) = lowN a b ∧ lowD (lowN a b) (lowD a b) = lowD a b := low_eq (by have := low_pos (a := a) h; omega) h (low_cross h)
theorem low_ge {a b : Int} (h : b ≠ 0) : (lowN a b).natAbs ≤ a.natAbs ∧ (lowD a b).natAbs ≤ b.natAbs := by
  have s : b.sign.natAbs = 1 := by rcases sg h with e | e <;> rw [e] <;> rfl
  have g := gcd_pos (a := a) h
  have k (x : Int) : (b.sign * x / (Int.gcd a b : Int)).natAbs ≤ x.natAbs := by
    have := Int.natAbs_ediv_le_natAbs (b.sign * x) (Int.gcd a b : Int)
    rwa [Int.natAbs_mul, s, Nat.one_mul] at this
  exact ⟨k a, k b⟩
/-- the step of Euclid's going takes half of the product -/
theorem euclid_half {a b : Nat} (h : b ≤ a) (hb : 0 < b) : 2 * (b * (a % b)) ≤ a * b := by
  have h1 : a % b < b := Nat.mod_lt _ hb
  have h2 : b * (a / b) + a % b = a := Nat.div_add_mod a b
  have h3 : 1 ≤ a / b := (Nat.one_le_div_iff hb).mpr h
  have h4 : b * 1 ≤ b * (a / b) := Nat.mul_le_mul_left b h3
  have h5 : 2 * (a % b) ≤ a := by omega
  calc 2 * (b * (a % b)) = b * (2 * (a % b)) := by ac_rfl
    _ ≤ b * a := Nat.mul_le_mul_left b h5
    _ = a * b := Nat.mul_comm ..
theorem fdiv_exact {a g q : Int} (hg : g ≠ 0) (h : a = g * q) : a.fdiv g = q := by
  rw [h, Int.mul_fdiv_cancel_left q hg]
end RL

/-! RL, the program's fractions: what these defs compute (a law's own meanings are the same to the sign). -/
namespace RF
open PySem RL L2
def fuel : Nat := 100000
def b_fract : RL.Env → SRes := (sThen (sAsg (.nm 2) true (sCall (on1 fAbs) (sCons (sVarB 0) sNil)))
    (sThen (sAsg (.nm 3) true (sCall (on1 fAbs) (sCons (sVarB 1) sNil)))
    (sThen (whileRun (sTest (s2 opGt (sVarB 3) (sC (.int 0)))) (sPar 2 3 (sCons (sVar 3) (sCons (s2 opMod (sVarB 2) (sVarB 3)) sNil))) fuel)
    (sThen (sIfS (sTest (s2 opLt (sVarB 1) (sC (.int 0)))) (sAsg (.nm 2) true (s2 opSub (sC (.int 0)) (sVarB 2))) sNext)
    (sRet (sTup (sCons (s2 opFdiv (sVarB 0) (sVarB 2)) (sCons (s2 opFdiv (sVarB 1) (sVarB 2)) sNil))))))))
def f_fract : List D → FR := runDef 4 [] b_fract
def b_is_less : RL.Env → SRes := (sRet (s2 opLt (s2 opMul (sIx (sVarB 0) (sC (.int 0))) (sIx (sVarB 1) (sC (.int 1)))) (s2 opMul (sIx (sVarB 1) (sC (.int 0))) (sIx (sVarB 0) (sC (.int 1))))))
def f_is_less : List D → FR := runDef 2 [] b_is_less
def b_fract_text : RL.Env → SRes := (sThen (sAsg (.tp [(.nm 1), (.nm 2)]) true (sVar 0))
    (sRet (sIf (sTest (s2 opEq (sVarB 2) (sC (.int 1)))) (sCall (on1 fStr) (sCons (sVarB 1) sNil)) (jRun [(s1 fFmt (sVarB 1)), (sC (.str "/")), (s1 fFmt (sVarB 2))] Str.empty))))
def f_fract_text : List D → FR := runDef 3 [] b_fract_text
def b__law_mixed : RL.Env → SRes := (sThen (sAsg (.nm 2) true (s2 opMod (s2 opAdd (s2 opAdd (s2 opMul (sVarB 0) (sC (.int 48271))) (s2 opMul (sC (.int 7919)) (sVarB 1))) (sC (.int 11))) (sC (.int 1000003))))
    (sRet (s2 opMod (s2 opMul (s2 opMod (s2 opMul (sVarB 2) (sVarB 2)) (sC (.int 1000003))) (sVarB 2)) (sC (.int 1000003)))))
def f__law_mixed : List D → FR := runDef 3 [] b__law_mixed
def b__law_lowest : RL.Env → SRes := (sThen (sAsg (.nm 2) true (sCall (on1 fAbs) (sCons (sVarB 0) sNil)))
    (sThen (sAsg (.nm 3) true (sCall (on1 fAbs) (sCons (sVarB 1) sNil)))
    (sThen (whileRun (sTest (s2 opGt (sVarB 3) (sC (.int 0)))) (sPar 2 3 (sCons (sVar 3) (sCons (s2 opMod (sVarB 2) (sVarB 3)) sNil))) fuel)
    (sThen (sAsg (.nm 4) true (sIf (sTest (s2 opLt (sVarB 1) (sC (.int 0)))) (s1 fNeg (sC (.int 1))) (sC (.int 1))))
    (sRet (sTup (sCons (s2 opFdiv (s2 opMul (sVarB 4) (sVarB 0)) (sVarB 2)) (sCons (s2 opFdiv (s2 opMul (sVarB 4) (sVarB 1)) (sVarB 2)) sNil))))))))
def f__law_lowest : List D → FR := runDef 5 [] b__law_lowest
def b_added : RL.Env → SRes := (sRet (sCallF 2 f_fract (sCons (s2 opAdd (s2 opMul (sIx (sVarB 0) (sC (.int 0))) (sIx (sVarB 1) (sC (.int 1)))) (s2 opMul (sIx (sVarB 1) (sC (.int 0))) (sIx (sVarB 0) (sC (.int 1))))) (sCons (s2 opMul (sIx (sVarB 0) (sC (.int 1))) (sIx (sVarB 1) (sC (.int 1)))) sNil))))
def f_added : List D → FR := runDef 2 [] b_added
def b_less : RL.Env → SRes := (sRet (sCallF 2 f_fract (sCons (s2 opSub (s2 opMul (sIx (sVarB 0) (sC (.int 0))) (sIx (sVarB 1) (sC (.int 1)))) (s2 opMul (sIx (sVarB 1) (sC (.int 0))) (sIx (sVarB 0) (sC (.int 1))))) (sCons (s2 opMul (sIx (sVarB 0) (sC (.int 1))) (sIx (sVarB 1) (sC (.int 1)))) sNil))))
def f_less : List D → FR := runDef 2 [] b_less
def b_times : RL.Env → SRes := (sRet (sCallF 2 f_fract (sCons (s2 opMul (sIx (sVarB 0) (sC (.int 0))) (sIx (sVarB 1) (sC (.int 0)))) (sCons (s2 opMul (sIx (sVarB 0) (sC (.int 1))) (sIx (sVarB 1) (sC (.int 1)))) sNil))))
def f_times : List D → FR := runDef 2 [] b_times
def b_mean : RL.Env → SRes := (sThen (sAsg (.nm 1) true (sCallF 2 f_fract (sCons (sC (.int 0)) (sCons (sC (.int 1)) sNil))))
    (sThen (sFor (sSeq (sVar 0)) (.nm 2)
    (sAsg (.nm 1) true (sCallF 2 f_added (sCons (sVar 1) (sCons (sVar 2) sNil)))))
    (sRet (sCallF 2 f_fract (sCons (sCl (sIx (sVarB 1) (sC (.int 0)))) (sCons (s2 opMul (sIx (sVarB 1) (sC (.int 1))) (sCall (on1 fLen) (sCons (sVarB 0) sNil))) sNil))))))
def f_mean : List D → FR := runDef 3 [] b_mean
theorem abs_eq (a : Int) : (if a < 0 then -a else a) = (a.natAbs : Int) := by split <;> omega
abbrev gC : RL.Env → Res Bool := sTest (s2 opGt (sVarB 3) (sC (.int 0)))
abbrev gS : RL.Env → SRes := sPar 2 3 (sCons (sVar 3) (sCons (s2 opMod (sVarB 2) (sVarB 3)) sNil))
section
variable (p q : Option D) (tl : RL.Env)
theorem g_step {a b n : Nat} (hb : 0 < b) : whileRun gC gS (n + 1) (p :: q :: some (.int a) :: some (.int b) :: tl) = whileRun gC gS n (p :: q :: some (.int b) :: some (.int (a % b : Nat)) :: tl) := by
  have e : ((b : Int) = 0) = False := by simp; omega
  rw [while_go (by simp [opGt]; omega), gS, sPar_ap (d := .int b) (e := .int (a % b : Nat)) (by simp [opMod_i (show (b : Int) ≠ 0 by omega), Int.natCast_emod, Int.fmod_eq_emod_of_nonneg])]
  simp
theorem g_stop {a n : Nat} : whileRun gC gS (n + 1) (p :: q :: some (.int a) :: some (.int (0 : Nat)) :: tl) = .nx (p :: q :: some (.int a) :: some (.int (0 : Nat)) :: tl) := by
  rw [while_stop (by simp [opGt])]
theorem euc : ∀ (k a b n : Nat), b ≤ a → a * b < 2 ^ k → k < n → whileRun gC gS n (p :: q :: some (.int a) :: some (.int b) :: tl) = .nx (p :: q :: some (.int (Nat.gcd a b)) :: some (.int (0 : Nat)) :: tl)
  | k, a, b, 0, _, _, h => absurd h (by omega)
  | k, a, 0, n + 1, _, _, _ => by rw [g_stop]; simp
  | 0, a, b + 1, n + 1, h, h2, _ => by
    have : 0 < a * (b + 1) := Nat.mul_pos (by omega) (by omega)
    omega
  | k + 1, a, b + 1, n + 1, h, h2, h3 => by
    have h4 := euclid_half h (by omega)
    have h5 : a % (b + 1) < b + 1 := Nat.mod_lt _ (by omega)
    rw [g_step _ _ _ (by omega), euc k (b + 1) (a % (b + 1)) n (by omega) (by rw [Nat.pow_succ] at h2; omega) (by omega)]
    rw [Nat.gcd_comm (b + 1), ← Nat.gcd_rec, Nat.gcd_comm]
theorem euc2 {k a b n : Nat} (h : a * b < 2 ^ k) (hn : k + 1 < n) : whileRun gC gS n (p :: q :: some (.int a) :: some (.int b) :: tl) = .nx (p :: q :: some (.int (Nat.gcd a b)) :: some (.int (0 : Nat)) :: tl) := by
  by_cases c : b ≤ a
  · exact euc p q tl k a b n c h (by omega)
  · cases n with
    | zero => omega
    | succ n =>
      rw [g_step _ _ _ (by omega), Nat.mod_eq_of_lt (by omega), euc p q tl k b a n (by omega) (by rw [Nat.mul_comm]; exact h) (by omega), Nat.gcd_comm]
end
def fr (x : Int × Int) : D := .tup [.int x.1, .int x.2]
def low (a b : Int) : Int × Int := (lowN a b, lowD a b)
theorem fdiv_neg1 {a b : Int} (h : b ≠ 0) : (0 - (Int.gcd a b : Int) ≠ 0) ∧ a.fdiv (0 - (Int.gcd a b : Int)) = -1 * a / (Int.gcd a b : Int) ∧ b.fdiv (0 - (Int.gcd a b : Int)) = -1 * b / (Int.gcd a b : Int) := by
  have g := gcd_pos (a := a) h
  have k (x : Int) (d : (Int.gcd a b : Int) ∣ x) : x.fdiv (0 - (Int.gcd a b : Int)) = -1 * x / (Int.gcd a b : Int) := by
    obtain ⟨m, e⟩ := d
    rw [fdiv_exact (q := -m) (by omega) (by rw [e, Int.zero_sub, Int.neg_mul_neg]), show -1 * x = (Int.gcd a b : Int) * -m by rw [e, Int.neg_mul, Int.one_mul, Int.mul_neg], Int.mul_ediv_cancel_left _ (by omega)]
  exact ⟨by omega, k a (Int.gcd_dvd_left ..), k b (Int.gcd_dvd_right ..)⟩
theorem prod_lt {a b : Int} (ha : Bd 1900 a) (hb : Bd 1900 b) : a.natAbs * b.natAbs < 2 ^ 3800 := by
  have := ha.mul hb
  unfold Bd at this
  rwa [Int.natAbs_mul] at this
theorem gcd_bd {a b : Int} (hb : Bd 1900 b) (h : b ≠ 0) : Bd 1900 (Int.gcd a b : Int) := by
  unfold Bd at *
  have : Int.gcd a b ≤ b.natAbs := Nat.le_of_dvd (by omega) (Int.natAbs_dvd_natAbs.mpr (Int.gcd_dvd_right a b))
  omega
theorem fract_eq {a b : Int} (ha : Bd 1900 a) (hb : Bd 1900 b) (h : b ≠ 0) : f_fract [.int a, .int b] = .ok (fr (low a b)) [] := by
  have w : whileRun gC gS fuel [some (.int a), some (.int b), some (.int a.natAbs), some (.int b.natAbs)] = .nx [some (.int a), some (.int b), some (.int (Int.gcd a b : Int)), some (.int 0)] := euc2 (some (.int a)) (some (.int b)) [] (n := fuel) (prod_lt ha hb) (by decide)
  have g := gcd_pos (a := a) h
  have gb := (gcd_bd (a := a) hb h).sml (by decide)
  have gb' := ((gcd_bd (a := a) hb h).neg).sml (by decide)
  rw [f_fract, runDef_ap]
  simp [b_fract, entry, fAbs, abs_eq]
  rw [w]
  have g1 : (Int.gcd a b : Int) ≠ 0 := by omega
  by_cases c : b < 0
  · have e := fdiv_neg1 (a := a) h
    rw [Int.zero_sub] at e
    simp [c, opFdiv_i e.1 gb', e.2.1, e.2.2, fr, low, lowN, lowD, Int.sign_eq_neg_one_of_neg c, sizeLine]
  · have d1 := fdiv_exact (a := a) g1 (Int.mul_ediv_cancel' (Int.gcd_dvd_left a b)).symm
    have d2 := fdiv_exact (a := b) g1 (Int.mul_ediv_cancel' (Int.gcd_dvd_right a b)).symm
    simp [c, opFdiv_i g1 gb, d1, d2, fr, low, lowN, lowD, Int.sign_eq_one_of_pos (show 0 < b by omega), sizeLine]
theorem lowest_eq {a b : Int} (ha : Bd 1900 a) (hb : Bd 1900 b) (h : b ≠ 0) : f__law_lowest [.int a, .int b] = .ok (fr (low a b)) [] := by
  have w : whileRun gC gS fuel [some (.int a), some (.int b), some (.int a.natAbs), some (.int b.natAbs), none] = .nx [some (.int a), some (.int b), some (.int (Int.gcd a b : Int)), some (.int 0), none] := euc2 (some (.int a)) (some (.int b)) [none] (n := fuel) (prod_lt ha hb) (by decide)
  have g := gcd_pos (a := a) h
  have gb := (gcd_bd (a := a) hb h).sml (by decide)
  rw [f__law_lowest, runDef_ap]
  simp [b__law_lowest, entry, fAbs, abs_eq]
  rw [w]
  have g1 : (Int.gcd a b : Int) ≠ 0 := by omega
  have d1 (x : Int) (hx : (Int.gcd a b : Int) ∣ x) := fdiv_exact (a := x) g1 (Int.mul_ediv_cancel' hx).symm
  have m1 := mulOk_l (i := 1) (j := a) (by decide) (by decide)
  have m2 := mulOk_l (i := 1) (j := b) (by decide) (by decide)
  have m3 := mulOk_l (i := -1) (j := a) (by decide) (by decide)
  have m4 := mulOk_l (i := -1) (j := b) (by decide) (by decide)
  have e1 := d1 _ (Int.gcd_dvd_left a b)
  have e2 := d1 _ (Int.gcd_dvd_right a b)
  have e3 := d1 (-a) (Int.dvd_neg.mpr (Int.gcd_dvd_left a b))
  have e4 := d1 (-b) (Int.dvd_neg.mpr (Int.gcd_dvd_right a b))
  by_cases c : b < 0
  · simp [c, opMul_i m3, opMul_i m4, opFdiv_i g1 gb, fr, low, lowN, lowD, Int.sign_eq_neg_one_of_neg c, sizeLine, e3, e4]
  · simp [c, opMul_i m1, opMul_i m2, opFdiv_i g1 gb, fr, low, lowN, lowD, Int.sign_eq_one_of_pos (show 0 < b by omega), sizeLine, e1, e2]
@[simp] theorem fr_clean {x : Int × Int} : (fr x).clean = true := by simp [fr]
@[simp] theorem fr_frz {x : Int × Int} : (fr x).frz = fr x := by simp [fr]
@[simp] theorem fr_0 {x : Int × Int} : opIx (fr x) (.int 0) = some (.int x.1) := by simp [fr]
@[simp] theorem fr_1 {x : Int × Int} : opIx (fr x) (.int 1) = some (.int x.2) := by simp [fr]
/-- numbers of a fraction, not too great -/
structure Fr (k : Nat) (x : Int × Int) : Prop where
  n : Bd k x.1
  d : Bd k x.2
  z : x.2 ≠ 0
theorem Fr.mono {j k : Nat} {x : Int × Int} (h : Fr j x) (q : j ≤ k) : Fr k x := ⟨h.n.mono q, h.d.mono q, h.z⟩
theorem Fr.low {k : Nat} {x : Int × Int} (h : Fr k x) : Fr k (low x.1 x.2) := ⟨h.n.of_le (low_ge h.z).1, h.d.of_le (low_ge h.z).2, by have := low_pos (a := x.1) h.z; unfold RF.low; simp only; omega⟩
def add (x y : Int × Int) : Int × Int := (x.1 * y.2 + y.1 * x.2, x.2 * y.2)
def sub (x y : Int × Int) : Int × Int := (x.1 * y.2 - y.1 * x.2, x.2 * y.2)
def mul (x y : Int × Int) : Int × Int := (x.1 * y.1, x.2 * y.2)
theorem Fr.add {j k : Nat} {x y : Int × Int} (h : Fr j x) (q : Fr k y) : Fr (j + k + 1) (add x y) := ⟨(h.n.mul q.d).add ((q.n.mul h.d).mono (by omega)), (h.d.mul q.d).mono (by omega), Int.mul_ne_zero h.z q.z⟩
theorem Fr.sub {j k : Nat} {x y : Int × Int} (h : Fr j x) (q : Fr k y) : Fr (j + k + 1) (sub x y) := ⟨(h.n.mul q.d).sub ((q.n.mul h.d).mono (by omega)), (h.d.mul q.d).mono (by omega), Int.mul_ne_zero h.z q.z⟩
theorem Fr.mul {j k : Nat} {x y : Int × Int} (h : Fr j x) (q : Fr k y) : Fr (j + k) (mul x y) := ⟨h.n.mul q.n, h.d.mul q.d, Int.mul_ne_zero h.z q.z⟩
theorem fract_fr {k : Nat} {x : Int × Int} (h : Fr k x) (q : k ≤ 1900 := by omega) : f_fract [.int x.1, .int x.2] = .ok (fr (low x.1 x.2)) [] := fract_eq (h.n.mono q) (h.d.mono q) h.z
theorem lowest_fr {k : Nat} {x : Int × Int} (h : Fr k x) (q : k ≤ 1900 := by omega) : f__law_lowest [.int x.1, .int x.2] = .ok (fr (low x.1 x.2)) [] := lowest_eq (h.n.mono q) (h.d.mono q) h.z
theorem added_eq {j k : Nat} {x y : Int × Int} (h : Fr j x) (q : Fr k y) (hs : j + k < 1900) : f_added [fr x, fr y] = .ok (fr (low (add x y).1 (add x y).2)) [] := by
  have m1 := h.n.mulOk q.d (by omega) (by omega)
  have m2 := q.n.mulOk h.d (by omega) (by omega)
  have m3 := h.d.mulOk q.d (by omega) (by omega)
  have e := fract_fr (h.add q)
  simp only [add] at e ⊢
  rw [f_added, runDef_ap]
  simp [b_added, entry, fr, opMul_i m1, opMul_i m2, opMul_i m3]
  simp [e, fr]
theorem less_eq {j k : Nat} {x y : Int × Int} (h : Fr j x) (q : Fr k y) (hs : j + k < 1900) : f_less [fr x, fr y] = .ok (fr (low (sub x y).1 (sub x y).2)) [] := by
  have m1 := h.n.mulOk q.d (by omega) (by omega)
  have m2 := q.n.mulOk h.d (by omega) (by omega)
  have m3 := h.d.mulOk q.d (by omega) (by omega)
  have e := fract_fr (h.sub q)
  simp only [sub] at e ⊢
  rw [f_less, runDef_ap]
  simp [b_less, entry, fr, opMul_i m1, opMul_i m2, opMul_i m3]
  simp [e, fr]
theorem times_eq {j k : Nat} {x y : Int × Int} (h : Fr j x) (q : Fr k y) (hs : j + k < 1900) : f_times [fr x, fr y] = .ok (fr (low (mul x y).1 (mul x y).2)) [] := by
  have m1 := h.n.mulOk q.n (by omega) (by omega)
  have m3 := h.d.mulOk q.d (by omega) (by omega)
  have e := fract_fr (h.mul q)
  simp only [mul] at e ⊢
  rw [f_times, runDef_ap]
  simp [b_times, entry, fr, opMul_i m1, opMul_i m3]
  simp [e, fr]
theorem is_less_eq {j k : Nat} {x y : Int × Int} (h : Fr j x) (q : Fr k y) (hs : j + k < 1900) : f_is_less [fr x, fr y] = .ok (.bl (decide (x.1 * y.2 < y.1 * x.2))) [] := by
  have m1 := h.n.mulOk q.d (by omega) (by omega)
  have m2 := q.n.mulOk h.d (by omega) (by omega)
  rw [f_is_less, runDef_ap]
  simp [b_is_less, entry, fr, opMul_i m1, opMul_i m2]
theorem len_int {i : Int} (h : sml i = true) : (Str.ofString i.repr).length ≤ 1901 := by
  simp only [sml, decide_eq_true_eq] at h
  have e := int_text_length_le (a := i) (k := 1900) (by decide) h
  rw [PySem.ofString_length]
  exact e
def txt (x : Int × Int) : Str := if x.2 = 1 then Str.ofString x.1.repr else Str.ofString x.1.repr ++ Str.ofString "/" ++ Str.ofString x.2.repr
theorem text_eq {k : Nat} {x : Int × Int} (h : Fr k x) (hs : k ≤ 1900) : f_fract_text [fr x] = .ok (.str (txt x)) [] := by
  have m1 := h.n.sml hs
  have m2 := h.d.sml hs
  have l1 := len_int m1
  have l2 := len_int m2
  have l3 : (Str.ofString "/").length = 1 := by decide +kernel
  rw [f_fract_text, runDef_ap]
  by_cases c : x.2 = 1
  · simp [b_fract_text, entry, fr, c, fStr, m1, txt]
  · have k1 : (Str.ofString x.1.repr).length ≤ sizeLine := by unfold sizeLine; omega
    have k2 : (Str.ofString x.1.repr ++ Str.ofString "/").length ≤ sizeLine := by rw [Str.length_append]; unfold sizeLine; omega
    have k3 : (Str.ofString x.1.repr ++ Str.ofString "/" ++ Str.ofString x.2.repr).length ≤ sizeLine := by rw [Str.length_append, Str.length_append]; unfold sizeLine; omega
    simp [b_fract_text, entry, fr, c, fFmt, m1, m2, Str.empty_append, k1, k2, k3, txt]
/-- of the same worth -/
def Eqv (x y : Int × Int) : Prop := x.1 * y.2 = y.1 * x.2
theorem low_of {x y : Int × Int} (hx : x.2 ≠ 0) (hy : y.2 ≠ 0) (h : Eqv x y) : low x.1 x.2 = low y.1 y.2 := by
  have := low_eq hx hy h
  unfold low
  rw [this.1, this.2]
theorem low_eqv {x : Int × Int} (h : x.2 ≠ 0) : Eqv (low x.1 x.2) x := low_cross h
theorem add_eqv {x x' y : Int × Int} (h : Eqv x x') : Eqv (add x y) (add x' y) := by
  unfold Eqv add at *
  simp only
  grind
theorem mean1 {k : Nat} {x : Int × Int} (h : Fr k x) (hl : low x.1 x.2 = x) (hs : k ≤ 500) : f_mean [.lst false [fr x]] = .ok (fr x) [] := by
  have z : Fr 1 ((0, 1) : Int × Int) := ⟨by unfold Bd; decide, by unfold Bd; decide, by decide⟩
  have e0 := fract_fr z
  have l0 : low 0 1 = (0, 1) := by decide
  have a1 := added_eq z h (by omega)
  have e1 : add (0, 1) x = x := by simp [add]
  rw [e1, hl] at a1
  have e2 := fract_fr h
  rw [hl] at e2
  have m := mulOk_r (i := x.2) (j := 1) (by decide) (by decide)
  rw [f_mean, runDef_ap]
  simp only [l0] at e0
  simp [b_mean, entry, e0, l0, forRun_cons, a1, e2, opMul_i m]
  done
theorem Eqv.trans {x y z : Int × Int} (hy : y.2 ≠ 0) (h : Eqv x y) (q : Eqv y z) : Eqv x z := by
  unfold Eqv at *
  have : x.1 * z.2 * y.2 = z.1 * x.2 * y.2 := by grind
  exact Int.eq_of_mul_eq_mul_right hy this
theorem mean3 {k : Nat} {x y : Int × Int} (h : Fr k x) (hl : low x.1 x.2 = x) (q : Fr k y) (hs : k ≤ 300) : f_mean [.lst false [fr x, fr y, fr x]] = .ok (fr (low (2 * x.1 * y.2 + y.1 * x.2) (3 * x.2 * y.2))) [] := by
  have z : Fr 1 ((0, 1) : Int × Int) := ⟨by unfold Bd; decide, by unfold Bd; decide, by decide⟩
  have e0 := fract_fr z
  have l0 : low 0 1 = (0, 1) := by decide
  have a1 := added_eq z h (by omega)
  have e1 : add (0, 1) x = x := by simp [add]
  rw [e1, hl] at a1
  have a2 := added_eq h q (by omega)
  have f2 := (h.add q).low
  have a3 := added_eq f2 h (by omega)
  have f3 := (f2.add h).low
  have m := (f3.d).mulOk (y := 3) (k := 2) (by unfold Bd; decide) (by omega) (by decide)
  simp only [l0] at e0
  have v2 : Eqv (low (add x y).1 (add x y).2) (add x y) := low_eqv (h.add q).z
  have v3 : Eqv (low (add (low (add x y).1 (add x y).2) x).1 (add (low (add x y).1 (add x y).2) x).2) (add (add x y) x) := (low_eqv (f2.add h).z).trans (f2.add h).z (add_eqv v2)
  generalize hu : low (add x y).1 (add x y).2 = u at *
  generalize hw : low (add u x).1 (add u x).2 = w at *
  have e4 : f_fract [.int w.1, .int (w.2 * 3)] = .ok (fr (low w.1 (w.2 * 3))) [] := fract_eq (f3.n.mono (by omega)) ((f3.d.mul (y := 3) (k := 2) (by unfold Bd; decide)).mono (by omega)) (by have := f3.z; omega)
  have e5 : low w.1 (w.2 * 3) = low (2 * x.1 * y.2 + y.1 * x.2) (3 * x.2 * y.2) := by
    refine low_of (x := (w.1, w.2 * 3)) (y := (2 * x.1 * y.2 + y.1 * x.2, 3 * x.2 * y.2)) (by have := f3.z; simp only; omega) (Int.mul_ne_zero (Int.mul_ne_zero (by decide) h.z) q.z) ?_
    have hx := h.z
    unfold Eqv add at v3
    unfold Eqv
    simp only at v3 ⊢
    have : w.1 * (3 * x.2 * y.2) * x.2 = (2 * x.1 * y.2 + y.1 * x.2) * (w.2 * 3) * x.2 := by grind
    exact Int.eq_of_mul_eq_mul_right hx this
  rw [f_mean, runDef_ap]
  simp [b_mean, entry, e0, l0, forRun_cons, a1, a2, a3, opMul_i m, e4, e5]
theorem mixed_eq {n k : Int} (hk : -(2 ^ 64) < k ∧ k < 2 ^ 64) : ∃ m, f__law_mixed [.int n, .int k] = .ok (.int m) [] ∧ 0 ≤ m ∧ m < 1000003 := by
  have m1 := mulOk_r (i := n) (j := 48271) (by decide) (by decide)
  have m2 := mulOk_r (i := 7919) hk.1 hk.2
  have hm (x : Int) : 0 ≤ x % 1000003 ∧ x % 1000003 < 1000003 := ⟨Int.emod_nonneg _ (by decide), Int.emod_lt_of_pos _ (by decide)⟩
  have r0 := hm (n * 48271 + 7919 * k + 11)
  generalize hr : (n * 48271 + 7919 * k + 11) % 1000003 = r at *
  have m3 := mulOk_r (i := r) (j := r) (by omega) (by omega)
  have s0 := hm (r * r)
  generalize hs : r * r % 1000003 = s at *
  have m4 := mulOk_r (i := s) (j := r) (by omega) (by omega)
  refine ⟨s * r % 1000003, ?_, hm _⟩
  rw [f__law_mixed, runDef_ap]
  simp [b__law_mixed, entry, opMul_i m1, opMul_i m2, opMul_i m3, opMul_i m4, opMod_i (show (1000003 : Int) ≠ 0 by decide), Int.fmod_eq_emod_of_nonneg, hr, hs]
theorem pick4 {P : Int → Prop} {a b c d r : Int} (ha : P a) (hb : P b) (hc : P c) (hd : P d) (h0 : 0 ≤ r) (h4 : r < 4) : ∃ v, atI [D.int a, .int b, .int c, .int d] r = some (.int v) ∧ P v := by
  have : r = 0 ∨ r = 1 ∨ r = 2 ∨ r = 3 := by omega
  rcases this with rfl | rfl | rfl | rfl
  · exact ⟨a, by simp, ha⟩
  · exact ⟨b, by simp, hb⟩
  · exact ⟨c, by simp, hc⟩
  · exact ⟨d, by simp, hd⟩
theorem bd150 {x : Int} (h : -(10 ^ 41) < x) (q : x < 10 ^ 41) : Bd 150 x := by
  unfold Bd
  have : (2 : Nat) ^ 150 = 1427247692705959881058285969449495136382746624 := by decide
  omega

theorem pick3 {P : Int → Prop} {a b c r : Int} (ha : P a) (hb : P b) (hc : P c) (h0 : 0 ≤ r) (h4 : r < 3) : ∃ v, atI [D.int a, .int b, .int c] r = some (.int v) ∧ P v := by
  have : r = 0 ∨ r = 1 ∨ r = 2 := by omega
  rcases this with rfl | rfl | rfl
  · exact ⟨a, by simp, ha⟩
  · exact ⟨b, by simp, hb⟩
  · exact ⟨c, by simp, hc⟩
theorem fr_fit {x : Int × Int} : (fr x).fit = true := by simp [fr, D.fit, fitN]
theorem mod_pos {i j : Int} (h : 0 < j) : opMod (.int i) (.int j) = some (.int (i % j)) := by rw [opMod_i (by omega), Int.fmod_eq_emod_of_nonneg _ (by omega)]
theorem fdiv_pos {i j : Int} (h : 0 < j) (q : sml j = true) : opFdiv (.int i) (.int j) = some (.int (i / j)) := by rw [opFdiv_i (by omega) q, Int.fdiv_eq_ediv_of_nonneg _ (by omega)]
end RF

namespace Lk02
open PySem RL
def fuel : Nat := 100000
def k_fract_0 : RL.Env → SRes := (sPar 2 3 (sCons (sVar 3) (sCons (s2 opMod (sVarB 2) (sVarB 3)) sNil)))
def b_fract : RL.Env → SRes := (sThen (sAsg (.nm 2) true (sCall (on1 fAbs) (sCons (sVarB 0) sNil)))
    (sThen (sAsg (.nm 3) true (sCall (on1 fAbs) (sCons (sVarB 1) sNil)))
    (sThen (whileRun (sTest (s2 opGt (sVarB 3) (sC (.int 0)))) k_fract_0 fuel)
    (sThen (sIfS (sTest (s2 opLt (sVarB 1) (sC (.int 0)))) (sAsg (.nm 2) true (s2 opSub (sC (.int 0)) (sVarB 2))) sNext)
    (sRet (sTup (sCons (s2 opFdiv (sVarB 0) (sVarB 2)) (sCons (s2 opFdiv (sVarB 1) (sVarB 2)) sNil))))))))
def f_fract : List D → FR := runDef 4 [] b_fract
def b__law_mixed : RL.Env → SRes := (sThen (sAsg (.nm 2) true (s2 opMod (s2 opAdd (s2 opAdd (s2 opMul (sVarB 0) (sC (.int 48271))) (s2 opMul (sC (.int 7919)) (sVarB 1))) (sC (.int 11))) (sC (.int 1000003))))
    (sRet (s2 opMod (s2 opMul (s2 opMod (s2 opMul (sVarB 2) (sVarB 2)) (sC (.int 1000003))) (sVarB 2)) (sC (.int 1000003)))))
def f__law_mixed : List D → FR := runDef 3 [] b__law_mixed
def k__law_fract_0 : RL.Env → SRes := (sPar 2 3 (sCons (sVar 3) (sCons (s2 opMod (sVarB 2) (sVarB 3)) sNil)))
def b__law_fract : RL.Env → SRes := (sThen (sAsg (.nm 2) true (sCall (on1 fAbs) (sCons (sVarB 0) sNil)))
    (sThen (sAsg (.nm 3) true (sVar 1))
    (sThen (whileRun (sTest (s2 opGt (sVarB 3) (sC (.int 0)))) k__law_fract_0 fuel)
    (sRet (sTup (sCons (s2 opFdiv (sVarB 0) (sVarB 2)) (sCons (s2 opFdiv (sVarB 1) (sVarB 2)) sNil)))))))
def f__law_fract : List D → FR := runDef 4 [] b__law_fract
def b_to_tenths : RL.Env → SRes := (sRet (sCallF 2 f_fract (sCons (s2 opFdiv (s2 opAdd (s2 opMul (sC (.int 20)) (sIx (sVarB 0) (sC (.int 0)))) (sIx (sVarB 0) (sC (.int 1)))) (s2 opMul (sC (.int 2)) (sIx (sVarB 0) (sC (.int 1))))) (sCons (sC (.int 10)) sNil))))
def f_to_tenths : List D → FR := runDef 1 [] b_to_tenths
def b__law_drawn : RL.Env → SRes := (sThen (sAsg (.nm 1) true (sCl (sIx (sLst (sCons (s2 opMod (sCallF 2 f__law_mixed (sCons (sVar 0) (sCons (sC (.int 1)) sNil))) (sC (.int 50))) (sCons (sCallF 2 f__law_mixed (sCons (sVar 0) (sCons (sC (.int 1)) sNil))) (sCons (s2 opMod (sVarB 0) (s2 opPow (sC (.int 10)) (sC (.int 30)))) sNil)))) (s2 opMod (sCallF 2 f__law_mixed (sCons (sVar 0) (sCons (sC (.int 2)) sNil))) (sC (.int 3))))))
    (sThen (sAsg (.nm 2) true (sCl (sIx (sLst (sCons (s2 opAdd (sC (.int 1)) (s2 opMod (sCallF 2 f__law_mixed (sCons (sVar 0) (sCons (sC (.int 3)) sNil))) (sC (.int 24)))) (sCons (s2 opAdd (sC (.int 1)) (sCallF 2 f__law_mixed (sCons (sVar 0) (sCons (sC (.int 3)) sNil)))) (sCons (s2 opAdd (sC (.int 1)) (s2 opMod (sVarB 0) (s2 opPow (sC (.int 10)) (sC (.int 30))))) sNil)))) (s2 opMod (sCallF 2 f__law_mixed (sCons (sVar 0) (sCons (sC (.int 4)) sNil))) (sC (.int 3))))))
    (sThen (sAsg (.nm 1) true (s2 opMul (sVarB 1) (sIx (sLst (sCons (sC (.int 1)) (sCons (s1 fNeg (sC (.int 1))) (sCons (sC (.int 1)) sNil)))) (s2 opMod (sCallF 2 f__law_mixed (sCons (sVar 0) (sCons (sC (.int 6)) sNil))) (sC (.int 3))))))
    (sThen (sAsg (.nm 3) true (s2 opMod (sCallF 2 f__law_mixed (sCons (sVar 0) (sCons (sC (.int 5)) sNil))) (sC (.int 4))))
    (sThen (sIfS (sTest (s2 opEq (sVarB 3) (sC (.int 0)))) (sRet (sCallF 2 f__law_fract (sCons (s2 opAdd (s2 opMul (sC (.int 2)) (sVarB 1)) (sC (.int 1))) (sCons (sC (.int 20)) sNil)))) sNext)
    (sThen (sIfS (sTest (s2 opEq (sVarB 3) (sC (.int 1)))) (sRet (sCallF 2 f__law_fract (sCons (sVar 1) (sCons (sC (.int 10)) sNil)))) sNext)
    (sRet (sCallF 2 f__law_fract (sCons (sVar 1) (sCons (sVar 2) sNil))))))))))
def f__law_drawn : List D → FR := runDef 4 [] b__law_drawn
def k_law_0 : RL.Env → SRes := (sThen (sAsg (.nm 3) true (sCallF 1 f__law_drawn (sCons (s2 opAdd (sVarB 2) (sVarB 1)) sNil)))
    (sThen (sAsg (.nm 4) true (sCallF 1 f_to_tenths (sCons (sVar 3) sNil)))
    (sThen (sIfS (sOrT (sNot (sTest (s1 (fIsTy "tuple") (sVarB 4)))) (sTest (s2 opNe (sCall (on1 fLen) (sCons (sVarB 4) sNil)) (sC (.int 2))))) (sRet (sC (.bl false))) sNext)
    (sThen (sAsg (.tp [(.nm 6), (.nm 7)]) true (sVar 4))
    (sThen (sIfS (sNot (sTest (sCall (on1 fAll) (sCons (sLc (sSeq (sVar 4)) (.nm 8) [8] sYes (sAnd (s1 (fIsTy "int") (sVarB 8)) (sNotV (s1 (fIsTy "bool") (sVarB 8))))) sNil)))) (sRet (sC (.bl false))) sNext)
    (sThen (sIfS (sOrT (sTest (s2 opLt (sVarB 7) (sC (.int 1)))) (sOrT (sTest (s2 opNe (s2 opMod (sC (.int 10)) (sVarB 7)) (sC (.int 0)))) (sTest (s2 opNe (sCallF 2 f__law_fract (sCons (sVar 6) (sCons (sVar 7) sNil))) (sVarB 4))))) (sRet (sC (.bl false))) sNext)
    (sThen (sAsg (.nm 5) true (s2 opMul (sC (.int 20)) (s2 opSub (s2 opMul (sVarB 6) (sIx (sVarB 3) (sC (.int 1)))) (s2 opMul (sIx (sVarB 3) (sC (.int 0))) (sVarB 7)))))
    (sIfS (sOrT (sNot (sTest (sChain opLt opLe (s2 opSub (sC (.int 0)) (s2 opMul (sVarB 7) (sIx (sVarB 3) (sC (.int 1))))) (sVarB 5) (s2 opMul (sVarB 7) (sIx (sVarB 3) (sC (.int 1))))))) (sTest (s2 opNe (sCallF 1 f_to_tenths (sCons (sVar 4) sNil)) (sVarB 4)))) (sRet (sC (.bl false))) sNext))))))))
def b_law : RL.Env → SRes := (sThen (sFor (sI enum1 (sCons (s2 opAdd (sLst (sCons (sC (.int 0)) (sCons (sC (.int 1)) (sCons (sC (.int 2)) sNil)))) (sCall (on1 fList) (sCons (sSl (sVarB 0) sPn (sPs (sC (.int 60)))) sNil))) sNil)) (.tp [(.nm 1), (.nm 2)])
    k_law_0)
    (sRet (sC (.bl true))))
def f_law : List D → FR := runDef 9 [] b_law
end Lk02

namespace Lk02
open PySem RL L2 RF
theorem same_fract : f_fract = RF.f_fract := rfl
theorem same_mixed : f__law_mixed = RF.f__law_mixed := rfl
theorem lfract_eq {a b : Int} (ha : Bd 1900 a) (hb : Bd 1900 b) (h : 0 < b) : f__law_fract [.int a, .int b] = .ok (fr (low a b)) [] := by
  have e : (b.natAbs : Int) = b := by omega
  have w : whileRun gC k__law_fract_0 fuel [some (.int a), some (.int b), some (.int a.natAbs), some (.int b)] = .nx [some (.int a), some (.int b), some (.int (Int.gcd a b : Int)), some (.int 0)] := by
    have := euc2 (some (.int a)) (some (.int b)) [] (n := fuel) (prod_lt ha hb) (by decide)
    rw [e] at this
    exact this
  have g := gcd_pos (a := a) (b := b) (by omega)
  have gb := (gcd_bd (a := a) hb (by omega)).sml (by decide)
  have g1 : (Int.gcd a b : Int) ≠ 0 := by omega
  have d1 := fdiv_exact (a := a) g1 (Int.mul_ediv_cancel' (Int.gcd_dvd_left a b)).symm
  have d2 := fdiv_exact (a := b) g1 (Int.mul_ediv_cancel' (Int.gcd_dvd_right a b)).symm
  rw [f__law_fract, runDef_ap]
  simp [b__law_fract, entry, fAbs, abs_eq]
  rw [w]
  simp [opFdiv_i g1 gb, d1, d2, fr, low, lowN, lowD, Int.sign_eq_one_of_pos h, sizeLine]
/-- the nearest tenth's number -/
def near (x : Int × Int) : Int := (20 * x.1 + x.2) / (2 * x.2)
theorem near_in {x : Int × Int} (h : 0 < x.2) : 2 * x.2 * near x ≤ 20 * x.1 + x.2 ∧ 20 * x.1 + x.2 < 2 * x.2 * near x + 2 * x.2 := by
  have p : 0 < 2 * x.2 := by omega
  have a := Int.mul_ediv_add_emod (20 * x.1 + x.2) (2 * x.2)
  have b := Int.emod_nonneg (20 * x.1 + x.2) (b := 2 * x.2) (by omega)
  have c := Int.emod_lt_of_pos (20 * x.1 + x.2) p
  unfold near
  omega
theorem near_bd {k : Nat} {x : Int × Int} (h : Fr k x) : Bd (k + 6) (near x) := by
  have q : Bd (k + 6) (20 * x.1 + x.2) := ((Bd.mul (j := 5) (x := 20) (by unfold Bd; decide) h.n).add (h.d.mono (by omega))).mono (by omega)
  exact q.of_le (Int.natAbs_ediv_le_natAbs _ _)
theorem tenths_eq {k : Nat} {x : Int × Int} (h : Fr k x) (p : 0 < x.2) (hk : k ≤ 500) : f_to_tenths [fr x] = .ok (fr (low (near x) 10)) [] := by
  have m1 := mulOk_l (i := 20) (j := x.1) (by decide) (by decide)
  have m2 := mulOk_l (i := 2) (j := x.2) (by decide) (by decide)
  have b2 : Bd (2 + k) (2 * x.2) := Bd.mul (j := 2) (x := 2) (by unfold Bd; decide) h.d
  have e := fract_eq (a := near x) (b := 10) ((near_bd h).mono (by omega)) (by unfold Bd; decide +kernel) (by decide)
  rw [f_to_tenths, runDef_ap]
  unfold near at e
  simp [b_to_tenths, entry, opMul_i m1, opMul_i m2, fdiv_pos (show 0 < 2 * x.2 by omega) (b2.sml (by omega)), same_fract, e, near]
theorem drawn_eq {n : Int} : ∃ x, f__law_drawn [.int n] = .ok (fr x) [] ∧ Fr 160 x ∧ 0 < x.2 := by
  obtain ⟨m1, e1, a1, b1⟩ := mixed_eq (n := n) (k := 1) (by decide)
  obtain ⟨m2, e2, a2, b2⟩ := mixed_eq (n := n) (k := 2) (by decide)
  obtain ⟨m3, e3, a3, b3⟩ := mixed_eq (n := n) (k := 3) (by decide)
  obtain ⟨m4, e4, a4, b4⟩ := mixed_eq (n := n) (k := 4) (by decide)
  obtain ⟨m5, e5, a5, b5⟩ := mixed_eq (n := n) (k := 5) (by decide)
  obtain ⟨m6, e6, a6, b6⟩ := mixed_eq (n := n) (k := 6) (by decide)
  have c0 : 0 ≤ n % 10 ^ 30 ∧ n % 10 ^ 30 < 10 ^ 30 := ⟨Int.emod_nonneg _ (by decide), Int.emod_lt_of_pos _ (by decide)⟩
  generalize hc : n % 10 ^ 30 = c at *
  obtain ⟨v, ev, hv⟩ := pick3 (P := fun x => Bd 150 x) (a := m1 % 50) (b := m1) (c := c) (r := m2 % 3) (bd150 (by omega) (by omega)) (bd150 (by omega) (by omega)) (bd150 (by omega) (by omega)) (by omega) (by omega)
  obtain ⟨u, eu, hu⟩ := pick3 (P := fun x => Bd 150 x ∧ 0 < x) (a := 1 + m3 % 24) (b := 1 + m3) (c := 1 + c) (r := m4 % 3) ⟨bd150 (by omega) (by omega), by omega⟩ ⟨bd150 (by omega) (by omega), by omega⟩ ⟨bd150 (by omega) (by omega), by omega⟩ (by omega) (by omega)
  obtain ⟨s, es, hs⟩ := pick3 (P := fun x => x = 1 ∨ x = -1) (a := 1) (b := -1) (c := 1) (r := m6 % 3) (by simp) (by simp) (by simp) (by omega) (by omega)
  have o1 := mulOk_r (i := v) (j := s) (by omega) (by omega)
  have s1 : Bd 1 s := by unfold Bd; omega
  have w1 : Bd 151 (v * s) := hv.mul s1
  generalize hw : v * s = w at *
  have o2 := mulOk_l (i := 2) (j := w) (by decide) (by decide)
  have p2 : opPow (.int 10) (.int 30) = some (.int (10 ^ 30)) := by simp [opPow]
  have k3 (i : Int) : opMod (.int i) (.int 3) = some (.int (i % 3)) := mod_pos (by decide)
  have k4 (i : Int) : opMod (.int i) (.int 4) = some (.int (i % 4)) := mod_pos (by decide)
  have k24 (i : Int) : opMod (.int i) (.int 24) = some (.int (i % 24)) := mod_pos (by decide)
  have k50 (i : Int) : opMod (.int i) (.int 50) = some (.int (i % 50)) := mod_pos (by decide)
  have k30 (i : Int) : opMod (.int i) (.int (10 ^ 30)) = some (.int (i % 10 ^ 30)) := mod_pos (by decide)
  have L3 : 3 ≤ sizeLine := by decide
  have F1 : Fr 154 (2 * w + 1, 20) := ⟨((Bd.mul (j := 2) (x := 2) (by unfold Bd; decide) w1).add ((show Bd 1 1 by unfold Bd; decide).mono (by omega))), (show Bd 5 20 by unfold Bd; decide).mono (by omega), show (20 : Int) ≠ 0 by decide⟩
  have F2 : Fr 154 (w, 10) := ⟨w1.mono (by omega), (show Bd 5 10 by unfold Bd; decide).mono (by omega), show (10 : Int) ≠ 0 by decide⟩
  have F3 : Fr 154 (w, u) := ⟨w1.mono (by omega), hu.1.mono (by omega), by omega⟩
  have G1 := lfract_eq (F1.n.mono (by omega)) (F1.d.mono (by omega)) (show (0 : Int) < 20 by decide)
  have G2 := lfract_eq (F2.n.mono (by omega)) (F2.d.mono (by omega)) (show (0 : Int) < 10 by decide)
  have G3 := lfract_eq (F3.n.mono (by omega)) (F3.d.mono (by omega)) hu.2
  simp only at G1 G2 G3
  by_cases w0 : m5 % 4 = 0
  · refine ⟨low (2 * w + 1) 20, ?_, F1.low.mono (by omega), low_pos (by decide)⟩
    rw [f__law_drawn, runDef_ap]
    simp [b__law_drawn, entry, same_mixed, e1, e2, e3, e4, e5, e6, p2, k3, k4, k24, k50, k30, -Int.reducePow, hc, ev, eu, es, opMul_i o1, opMul_i o2, hw, L3, w0, G1]
  · by_cases w1 : m5 % 4 = 1
    · refine ⟨low w 10, ?_, F2.low.mono (by omega), low_pos (by decide)⟩
      rw [f__law_drawn, runDef_ap]
      simp [b__law_drawn, entry, same_mixed, e1, e2, e3, e4, e5, e6, p2, k3, k4, k24, k50, k30, -Int.reducePow, hc, ev, eu, es, opMul_i o1, opMul_i o2, hw, L3, w1, G2]
    · refine ⟨low w u, ?_, F3.low.mono (by omega), low_pos (by omega)⟩
      rw [f__law_drawn, runDef_ap]
      simp [b__law_drawn, entry, same_mixed, e1, e2, e3, e4, e5, e6, p2, k3, k4, k24, k50, k30, -Int.reducePow, hc, ev, eu, es, opMul_i o1, opMul_i o2, hw, L3, w0, w1, G3]
theorem isInt {i : Int} : fIsTy "int" (.int i) = some (.bl true) := by
  have : kitB "int" "int" = some true := by decide +kernel
  simp [fIsTy, tyName, this]
theorem isBool {i : Int} : fIsTy "bool" (.int i) = some (.bl false) := by
  have : kitB "int" "bool" = some false := by decide +kernel
  simp [fIsTy, tyName, this]
theorem isTup {ds : List D} : fIsTy "tuple" (.tup ds) = some (.bl true) := by
  have : kitB "tuple" "tuple" = some true := by decide +kernel
  simp [fIsTy, tyName, this]

/-- the arithmetic: no tenth is nearer -/
theorem near_law {x : Int × Int} (h : 0 < x.2) : 10 % lowD (near x) 10 = 0 ∧ 0 < lowD (near x) 10 ∧ near (lowN (near x) 10, lowD (near x) 10) = near x ∧
    0 - lowD (near x) 10 * x.2 < 20 * (lowN (near x) 10 * x.2 - x.1 * lowD (near x) 10) ∧ 20 * (lowN (near x) 10 * x.2 - x.1 * lowD (near x) 10) ≤ lowD (near x) 10 * x.2 := by
  have c := low_cross (a := near x) (b := 10) (by decide)
  have p := low_pos (a := near x) (b := 10) (by decide)
  have d : lowD (near x) 10 ∣ 10 := ⟨(Int.gcd (near x) 10 : Int), by
    have := (low_mul (near x) 10).2
    rw [this]
    decide⟩
  have b := near_in h
  generalize near x = n at *
  generalize lowD n 10 = e at *
  generalize lowN n 10 = a at *
  have e1 : 20 * (a * x.2 - x.1 * e) = e * (2 * x.2 * n - 20 * x.1) := by grind
  refine ⟨Int.emod_eq_zero_of_dvd d, p, ?_, ?_, ?_⟩
  · unfold near
    have e2 : 20 * a + e = e * (2 * n + 1) := by grind
    have e3 : 2 * e = e * 2 := Int.mul_comm ..
    simp only
    rw [e2, e3, Int.mul_ediv_mul_of_pos _ _ p]
    omega
  · rw [e1, Int.zero_sub, ← Int.mul_neg]
    exact Int.mul_lt_mul_of_pos_left (by omega) p
  · rw [e1]
    exact Int.mul_le_mul_of_nonneg_left (by omega) (by omega)
end Lk02

namespace Lk02
open PySem RL L2 RF
theorem comp_eq {ρ : RL.Env} {y : Int × Int} (h4 : ρ[4]? = some (some (fr y))) (h8 : 8 < ρ.length) : (sLc (sSeq (sVar 4)) (.nm 8) [8] sYes (sAnd (s1 (fIsTy "int") (sVarB 8)) (sNotV (s1 (fIsTy "bool") (sVarB 8))))) ρ = .ok (.lst true [.bl true, .bl true]) := by
  have L2 : 2 ≤ sizeLine := by decide
  have sq : seqD (fr y) = some [.int y.1, .int y.2] := seqD_t (by simp)
  have one (i : Int) : lcOne (.nm 8) [8] sYes (sAnd (s1 (fIsTy "int") (sVarB 8)) (sNotV (s1 (fIsTy "bool") (sVarB 8)))) ρ (.int i) = .ok (some (.bl true)) := by
    have g : ((wipeE ρ [8]).set 8 (some (D.int i)))[8]? = some (some (D.int i)) := by
      simp [wipeE, h8]
    unfold lcOne
    rw [tg_nm (by simp [wipeE, h8])]
    simp only [sYes_ap, bind_ok, if_true, sAnd_ap, s1_ap, sVarB_ap g, isInt, opt_some, asB_bl, sNotV_ap, sB_ap, sNot_ap, sTest_ap, isBool, Bool.not_false]
  unfold sLc
  rw [sSeq_ap, sVar_ap h4]
  simp only [fr_clean, if_true, bind_ok, sq, opt_some, List.length, lcRun, one, Option.map]
  rfl
theorem x3 {s : D} {i n : Int} {w y : Int × Int} {c5 c6 c7 c8 : Option D} (ty : fIsTy "tuple" (fr y) = some (.bl true)) (ln : fLen (fr y) = some (.int 2)) : (sIfS (sOrT (sNot (sTest (s1 (fIsTy "tuple") (sVarB 4)))) (sTest (s2 opNe (sCall (on1 fLen) (sCons (sVarB 4) sNil)) (sC (.int 2))))) (sRet (sC (.bl false))) sNext) [some s, some (.int i), some (.int n), some (fr w), some (fr y), c5, c6, c7, c8] = .nx [some s, some (.int i), some (.int n), some (fr w), some (fr y), c5, c6, c7, c8] := by
  simp [ty, ln]
theorem x4 {s : D} {i n : Int} {w y : Int × Int} {c5 c6 c7 c8 : Option D} : (sAsg (.tp [(.nm 6), (.nm 7)]) true (sVar 4)) [some s, some (.int i), some (.int n), some (fr w), some (fr y), c5, c6, c7, c8] = .nx [some s, some (.int i), some (.int n), some (fr w), some (fr y), c5, some (.int y.1), some (.int y.2), c8] := by
  have tp (ρ : RL.Env) : (Tg.tp [.nm 6, .nm 7]).set (fr y) ρ = ((Tg.nm 6).set (.int y.1) ρ).bind fun ρ => (Tg.nm 7).set (.int y.2) ρ := by
    simp only [fr, tg_tp, tgL_cons]
    cases (Tg.nm 6).set (.int y.1) ρ with
    | none => rfl
    | some ρ => simp only [Option.bind_some, tgL_cons]; cases (Tg.nm 7).set (.int y.2) ρ <;> simp
  simp [tp]
theorem x5 {s : D} {i n : Int} {w y : Int × Int} {c5 c6 c7 c8 : Option D} (all : fAll (.lst true [.bl true, .bl true]) = some (.bl true)) : (sIfS (sNot (sTest (sCall (on1 fAll) (sCons (sLc (sSeq (sVar 4)) (.nm 8) [8] sYes (sAnd (s1 (fIsTy "int") (sVarB 8)) (sNotV (s1 (fIsTy "bool") (sVarB 8))))) sNil)))) (sRet (sC (.bl false))) sNext) [some s, some (.int i), some (.int n), some (fr w), some (fr y), c5, some (.int y.1), some (.int y.2), c8] = .nx [some s, some (.int i), some (.int n), some (fr w), some (fr y), c5, some (.int y.1), some (.int y.2), c8] := by
  simp [comp_eq (y := y), all]
theorem x6 {s : D} {i n : Int} {w y : Int × Int} {c5 c6 c7 c8 : Option D} (nlt : ¬ y.2 < 1) (mo : opMod (.int 10) (.int y.2) = some (.int 0)) (e3 : f__law_fract [.int y.1, .int y.2] = .ok (fr y) []) (e9 : opNe (fr y) (fr y) = some (.bl false)) : (sIfS (sOrT (sTest (s2 opLt (sVarB 7) (sC (.int 1)))) (sOrT (sTest (s2 opNe (s2 opMod (sC (.int 10)) (sVarB 7)) (sC (.int 0)))) (sTest (s2 opNe (sCallF 2 f__law_fract (sCons (sVar 6) (sCons (sVar 7) sNil))) (sVarB 4))))) (sRet (sC (.bl false))) sNext) [some s, some (.int i), some (.int n), some (fr w), some (fr y), c5, some (.int y.1), some (.int y.2), c8] = .nx [some s, some (.int i), some (.int n), some (fr w), some (fr y), c5, some (.int y.1), some (.int y.2), c8] := by
  simp [nlt, mo, e3, e9]
theorem x1 {s : D} {i n : Int} {w y : Int × Int} {c3 c4 c5 c6 c7 c8 : Option D} (e1 : f__law_drawn [.int (n + i)] = .ok (fr w) []) : (sAsg (.nm 3) true (sCallF 1 f__law_drawn (sCons (s2 opAdd (sVarB 2) (sVarB 1)) sNil))) [some s, some (.int i), some (.int n), c3, c4, c5, c6, c7, c8] = .nx [some s, some (.int i), some (.int n), some (fr w), c4, c5, c6, c7, c8] := by
  simp [e1]
theorem x2 {s : D} {i n : Int} {w y : Int × Int} {c3 c4 c5 c6 c7 c8 : Option D} (e2 : f_to_tenths [fr w] = .ok (fr y) []) : (sAsg (.nm 4) true (sCallF 1 f_to_tenths (sCons (sVar 3) sNil))) [some s, some (.int i), some (.int n), some (fr w), c4, c5, c6, c7, c8] = .nx [some s, some (.int i), some (.int n), some (fr w), some (fr y), c5, c6, c7, c8] := by
  simp [e2]
theorem x7 {s : D} {i n : Int} {w y : Int × Int} {c3 c4 c5 c6 c7 c8 : Option D} (m1 : mulOk y.1 w.2 = true) (m2 : mulOk w.1 y.2 = true) (m3 : mulOk 20 (y.1 * w.2 - w.1 * y.2) = true) : (sAsg (.nm 5) true (s2 opMul (sC (.int 20)) (s2 opSub (s2 opMul (sVarB 6) (sIx (sVarB 3) (sC (.int 1)))) (s2 opMul (sIx (sVarB 3) (sC (.int 0))) (sVarB 7))))) [some s, some (.int i), some (.int n), some (fr w), some (fr y), c5, some (.int y.1), some (.int y.2), c8] = .nx [some s, some (.int i), some (.int n), some (fr w), some (fr y), some (.int (20 * (y.1 * w.2 - w.1 * y.2))), some (.int y.1), some (.int y.2), c8] := by
  simp [opMul_i m1, opMul_i m2, opMul_i m3]
theorem x8 {s : D} {i n : Int} {w y : Int × Int} {c3 c4 c5 c6 c7 c8 : Option D} {b : Int} (m4 : mulOk y.2 w.2 = true) (q4 : 0 - y.2 * w.2 < b) (q5 : b ≤ y.2 * w.2) (e4 : f_to_tenths [fr y] = .ok (fr y) []) (e9 : opNe (fr y) (fr y) = some (.bl false)) : (sIfS (sOrT (sNot (sTest (sChain opLt opLe (s2 opSub (sC (.int 0)) (s2 opMul (sVarB 7) (sIx (sVarB 3) (sC (.int 1))))) (sVarB 5) (s2 opMul (sVarB 7) (sIx (sVarB 3) (sC (.int 1))))))) (sTest (s2 opNe (sCallF 1 f_to_tenths (sCons (sVar 4) sNil)) (sVarB 4)))) (sRet (sC (.bl false))) sNext) [some s, some (.int i), some (.int n), some (fr w), some (fr y), some (.int b), some (.int y.1), some (.int y.2), c8] = .nx [some s, some (.int i), some (.int n), some (fr w), some (fr y), some (.int b), some (.int y.1), some (.int y.2), c8] := by
  rw [Int.zero_sub] at q4
  simp [opMul_i m4, q4, q5, e4, e9]
theorem body_eq {s : D} {i n : Int} {w y : Int × Int} {c3 c4 c5 c6 c7 c8 : Option D} (e1 : f__law_drawn [.int (n + i)] = .ok (fr w) []) (e2 : f_to_tenths [fr w] = .ok (fr y) []) (ty : fIsTy "tuple" (fr y) = some (.bl true)) (ln : fLen (fr y) = some (.int 2)) (all : fAll (.lst true [.bl true, .bl true]) = some (.bl true))
    (nlt : ¬ y.2 < 1) (mo : opMod (.int 10) (.int y.2) = some (.int 0)) (e3 : f__law_fract [.int y.1, .int y.2] = .ok (fr y) []) (e9 : opNe (fr y) (fr y) = some (.bl false)) (m1 : mulOk y.1 w.2 = true) (m2 : mulOk w.1 y.2 = true) (m3 : mulOk 20 (y.1 * w.2 - w.1 * y.2) = true) (m4 : mulOk y.2 w.2 = true)
    (q4 : 0 - y.2 * w.2 < 20 * (y.1 * w.2 - w.1 * y.2)) (q5 : 20 * (y.1 * w.2 - w.1 * y.2) ≤ y.2 * w.2) (e4 : f_to_tenths [fr y] = .ok (fr y) []) :
    k_law_0 [some s, some (.int i), some (.int n), c3, c4, c5, c6, c7, c8] = .nx [some s, some (.int i), some (.int n), some (fr w), some (fr y), some (.int (20 * (y.1 * w.2 - w.1 * y.2))), some (.int y.1), some (.int y.2), c8] := by
  unfold k_law_0
  rw [sThen_ap, x1 (y := y) e1, andThen_nx, sThen_ap, x2 (c3 := none) e2, andThen_nx, sThen_ap, x3 ty ln, andThen_nx, sThen_ap, x4, andThen_nx, sThen_ap, x5 (c6 := none) (c7 := none) all, andThen_nx, sThen_ap, x6 (c6 := none) (c7 := none) nlt mo e3 e9, andThen_nx, sThen_ap, x7 (c3 := none) (c4 := none) (c6 := none) (c7 := none) m1 m2 m3, andThen_nx]
  exact x8 (c3 := none) (c4 := none) (c5 := none) (c6 := none) (c7 := none) m4 q4 q5 e4 e9
theorem bits {w y : Int × Int} (F : Fr 160 w) (Fn : Fr 166 y) : mulOk y.1 w.2 = true ∧ mulOk w.1 y.2 = true ∧ mulOk 20 (y.1 * w.2 - w.1 * y.2) = true ∧ mulOk y.2 w.2 = true :=
  ⟨Fn.n.mulOk F.d (by omega) (by omega), F.n.mulOk Fn.d (by omega) (by omega), mulOk_l (by decide) (by decide), Fn.d.mulOk F.d (by omega) (by omega)⟩
theorem lp_eq {s : D} {i n : Int} {c3 c4 c5 c6 c7 c8 : Option D} : ∃ d3 d4 d5 d6 d7 d8, k_law_0 [some s, some (.int i), some (.int n), c3, c4, c5, c6, c7, c8] = .nx [some s, some (.int i), some (.int n), d3, d4, d5, d6, d7, d8] := by
  obtain ⟨w, e1, F, p⟩ := drawn_eq (n := n + i)
  have e2 := tenths_eq F p (by omega)
  have ten : Bd 4 10 := by unfold Bd; decide
  have Fn : Fr 166 (low (near w) 10) := ⟨((near_bd F).of_le (low_ge (a := near w) (b := 10) (by decide)).1).mono (by omega), (ten.of_le (low_ge (a := near w) (b := 10) (by decide)).2).mono (by omega), by have := low_pos (a := near w) (b := 10) (by decide); simp only [low]; omega⟩
  obtain ⟨q1, q2, q3, q4, q5⟩ := near_law p
  have e3 := lfract_eq (Fn.n.mono (by omega)) (Fn.d.mono (by omega)) q2
  have e4 := tenths_eq Fn q2 (by omega)
  have l2 := low_low (a := near w) (b := 10) (by decide)
  have nr : near (low (near w) 10) = near w := q3
  have lo : low (low (near w) 10).1 (low (near w) 10).2 = low (near w) 10 := by simp only [low]; rw [l2.1, l2.2]
  rw [lo] at e3
  rw [nr] at e4
  have r0 : (low (near w) 10).1 = lowN (near w) 10 := rfl
  have r1 : (low (near w) 10).2 = lowD (near w) 10 := rfl
  rw [← r0, ← r1] at q4 q5
  rw [← r1] at q1 q2
  generalize low (near w) 10 = y at *
  obtain ⟨m1, m2, m3, m4⟩ := bits F Fn
  have e9 : opNe (fr y) (fr y) = some (.bl false) := opNe_same fr_fit fr_fit rfl
  have L2 : 2 ≤ sizeLine := by decide
  have ty : fIsTy "tuple" (fr y) = some (.bl true) := isTup
  have ln : fLen (fr y) = some (.int 2) := rfl
  have sq : seqD (fr y) = some [.int y.1, .int y.2] := seqD_t (by simp)
  have mo : opMod (.int 10) (.int y.2) = some (.int 0) := by rw [mod_pos q2, q1]
  have all : fAll (.lst true [.bl true, .bl true]) = some (.bl true) := rfl
  have nlt : ¬ y.2 < 1 := by omega
  exact ⟨_, _, _, _, _, _, body_eq e1 e2 ty ln all nlt mo e3 e9 m1 m2 m3 m4 q4 q5 e4⟩
theorem loop_eq {s : D} : ∀ {ns : List Int} {k : Nat} {c1 c2 c3 c4 c5 c6 c7 c8 : Option D}, ∃ ρ, forRun (.tp [.nm 1, .nm 2]) k_law_0 (pairsI k (ns.map .int)) [some s, c1, c2, c3, c4, c5, c6, c7, c8] = .nx ρ
  | [], k, c1, c2, c3, c4, c5, c6, c7, c8 => ⟨_, by simp [pairsI]; rfl⟩
  | n :: ns, k, c1, c2, c3, c4, c5, c6, c7, c8 => by
    obtain ⟨d3, d4, d5, d6, d7, d8, e⟩ := lp_eq (s := s) (i := k) (n := n) (c3 := c3) (c4 := c4) (c5 := c5) (c6 := c6) (c7 := c7) (c8 := c8)
    obtain ⟨ρ, f⟩ := loop_eq (s := s) (ns := ns) (k := k + 1) (c1 := some (.int k)) (c2 := some (.int n)) (c3 := d3) (c4 := d4) (c5 := d5) (c6 := d6) (c7 := d7) (c8 := d8)
    refine ⟨ρ, ?_⟩
    simp only [List.map, pairsI, forRun_cons]
    simp [e, f]
theorem law_true : ∀ ns : List Int, ns.length ≤ 63 → ∃ os, f_law [.scr ns] = .ok (.bl true) os := by
  intro ns _
  obtain ⟨ρ, e⟩ := loop_eq (s := .scr ns) (ns := 0 :: 1 :: 2 :: cutL ns none (some 60)) (k := 0) (c1 := none) (c2 := none) (c3 := none) (c4 := none) (c5 := none) (c6 := none) (c7 := none) (c8 := none)
  have len : (cutL ns none (some 60)).length ≤ 60 := by
    have k : HT.sIx ns.length ns.length (some 60) ≤ 60 := by
      have := HT.sIx_nat ns.length ns.length 60
      have e : ((60 : Nat) : Int) = 60 := rfl
      rw [e] at this
      rw [this]
      omega
    unfold cutL
    simp
    omega
  have L3 : 3 ≤ sizeLine := by decide
  refine ⟨[], ?_⟩
  have L61 : 3 + (cutL ns none (some 60)).length ≤ sizeLine := by unfold sizeLine; omega
  simp at e
  rw [f_law, runDef_ap]
  simp [b_law, entry, opSl, fList, L3, opAdd, enum1, L61, e]
end Lk02

namespace Lk02
open PySem PySem.Spec PyProof.Rows L2 RL
def topS (i : Nat) : Stmt := PySem.Challenge.pw_regattaroll_k02_nearest_tenths.main.body.getD i (.Pass ⟨0, 0, 0, 0⟩)
abbrev s_fract : Stmt := topS 1
abbrev N_fract : List Str := ["above", "below", "one", "other"]
theorem c_fract : FnScope N_fract ["above", "below"] (defScope s_fract) := ⟨rfl, rfl, rfl, by decide +kernel, rfl, by decide +kernel, by decide +kernel⟩
theorem o_fract {P : Program} {w : World} {K : PySem.W.Frag} {mg : Str → Option Value} {base : Heap} {f : Addr} {fd : FuncData} (F : Fun K "fract" "fract" s_fract f fd) (g : mg "fract" = some (.ref f)) (m_abs : mg "abs" = none) :
    DefOk P w K mg base "fract" 1 ["above", "below"] f_fract := DefOk.mk' F g (fn_ok F c_fract List.nodup_nil (by
  rintro X W cdv A outer s H E rfl hr tk hp
  exact (ss_cons (s_set 2 (f := true) c_fract.nd (e_callB c_abs m_abs (by decide +kernel) (ab_cons (b_var 0) ab_nil)))
    (ss_cons (s_set 3 (f := true) c_fract.nd (e_callB c_abs m_abs (by decide +kernel) (ab_cons (b_var 1) ab_nil)))
    (ss_cons (s_while fuel hp (t_cmp o_gt (b_var 3) (EOk.bo e_int)) (ss_one (s_par 2 3 rfl c_fract.nd (a_cons (e_var 3) (a_cons (e_op o_mod (b_var 2) (b_var 3)) a_nil)))))
    (ss_cons (s_if (t_cmp o_lt (b_var 1) (EOk.bo e_int)) (ss_one (s_set 2 (f := true) c_fract.nd (e_op o_sub (EOk.bo e_int) (b_var 2)))) ss_nil)
    (ss_one (s_ret (e_tup (a_cons (e_op o_fdiv (b_var 0) (b_var 2)) (a_cons (e_op o_fdiv (b_var 1) (b_var 2)) a_nil))))))))))) fun _ _ _ _ _ _ us hl => match us, hl with | [_, _], _ => rfl
abbrev s__law_mixed : Stmt := topS 4
abbrev N__law_mixed : List Str := ["_law_cell", "_law_k", "_law_number"]
theorem c__law_mixed : FnScope N__law_mixed ["_law_cell", "_law_k"] (defScope s__law_mixed) := ⟨rfl, rfl, rfl, by decide +kernel, rfl, by decide +kernel, by decide +kernel⟩
theorem o__law_mixed {P : Program} {w : World} {K : PySem.W.Frag} {mg : Str → Option Value} {base : Heap} {f : Addr} {fd : FuncData} (F : Fun K "_law_mixed" "_law_mixed" s__law_mixed f fd) (g : mg "_law_mixed" = some (.ref f))  :
    DefOk P w K mg base "_law_mixed" 1 ["_law_cell", "_law_k"] f__law_mixed := DefOk.mk' F g (fn_ok F c__law_mixed List.nodup_nil (by
  rintro X W cdv A outer s H E rfl hr tk hp
  exact (ss_cons (s_set 2 (f := true) c__law_mixed.nd (e_op o_mod (EOk.bo (e_op o_add (EOk.bo (e_op o_add (EOk.bo (e_op o_mul (b_var 0) (EOk.bo e_int))) (EOk.bo (e_op o_mul (EOk.bo e_int) (b_var 1))))) (EOk.bo e_int))) (EOk.bo e_int)))
    (ss_one (s_ret (e_op o_mod (EOk.bo (e_op o_mul (EOk.bo (e_op o_mod (EOk.bo (e_op o_mul (b_var 2) (b_var 2))) (EOk.bo e_int))) (b_var 2))) (EOk.bo e_int))))))) fun _ _ _ _ _ _ us hl => match us, hl with | [_, _], _ => rfl
abbrev s__law_fract : Stmt := topS 5
abbrev N__law_fract : List Str := ["_law_above", "_law_below", "_law_one", "_law_other"]
theorem c__law_fract : FnScope N__law_fract ["_law_above", "_law_below"] (defScope s__law_fract) := ⟨rfl, rfl, rfl, by decide +kernel, rfl, by decide +kernel, by decide +kernel⟩
theorem o__law_fract {P : Program} {w : World} {K : PySem.W.Frag} {mg : Str → Option Value} {base : Heap} {f : Addr} {fd : FuncData} (F : Fun K "_law_fract" "_law_fract" s__law_fract f fd) (g : mg "_law_fract" = some (.ref f)) (m_abs : mg "abs" = none) :
    DefOk P w K mg base "_law_fract" 1 ["_law_above", "_law_below"] f__law_fract := DefOk.mk' F g (fn_ok F c__law_fract List.nodup_nil (by
  rintro X W cdv A outer s H E rfl hr tk hp
  exact (ss_cons (s_set 2 (f := true) c__law_fract.nd (e_callB c_abs m_abs (by decide +kernel) (ab_cons (b_var 0) ab_nil)))
    (ss_cons (s_set 3 (f := true) c__law_fract.nd (e_var 1))
    (ss_cons (s_while fuel hp (t_cmp o_gt (b_var 3) (EOk.bo e_int)) (ss_one (s_par 2 3 rfl c__law_fract.nd (a_cons (e_var 3) (a_cons (e_op o_mod (b_var 2) (b_var 3)) a_nil)))))
    (ss_one (s_ret (e_tup (a_cons (e_op o_fdiv (b_var 0) (b_var 2)) (a_cons (e_op o_fdiv (b_var 1) (b_var 2)) a_nil)))))))))) fun _ _ _ _ _ _ us hl => match us, hl with | [_, _], _ => rfl
abbrev s_to_tenths : Stmt := topS 2
abbrev N_to_tenths : List Str := ["one"]
theorem c_to_tenths : FnScope N_to_tenths ["one"] (defScope s_to_tenths) := ⟨rfl, rfl, rfl, by decide +kernel, rfl, by decide +kernel, by decide +kernel⟩
theorem o_to_tenths {P : Program} {w : World} {K : PySem.W.Frag} {mg : Str → Option Value} {base : Heap} {f : Addr} {fd : FuncData} (F : Fun K "to_tenths" "to_tenths" s_to_tenths f fd) (g : mg "to_tenths" = some (.ref f)) (d_fract : DefOk P w K mg base "fract" 1 ["above", "below"] f_fract) :
    DefOk P w K mg base "to_tenths" 2 ["one"] f_to_tenths := DefOk.mk' F g (fn_ok F c_to_tenths List.nodup_nil (by
  rintro X W cdv A outer s H E rfl hr tk hp
  exact (ss_one (s_ret (e_fn d_fract hr tk (a_cons (e_op o_fdiv (EOk.bo (e_op o_add (EOk.bo (e_op o_mul (EOk.bo e_int) (b_sub (hu_of hr.r) (b_var 0) (EOk.bo e_int)))) (b_sub (hu_of hr.r) (b_var 0) (EOk.bo e_int)))) (EOk.bo (e_op o_mul (EOk.bo e_int) (b_sub (hu_of hr.r) (b_var 0) (EOk.bo e_int))))) (a_cons e_int a_nil))))))) fun _ _ _ _ _ _ us hl => match us, hl with | [_], _ => rfl
abbrev s__law_drawn : Stmt := topS 6
abbrev N__law_drawn : List Str := ["_law_cell", "_law_far", "_law_below", "_law_way"]
theorem c__law_drawn : FnScope N__law_drawn ["_law_cell"] (defScope s__law_drawn) := ⟨rfl, rfl, rfl, by decide +kernel, rfl, by decide +kernel, by decide +kernel⟩
theorem o__law_drawn {P : Program} {w : World} {K : PySem.W.Frag} {mg : Str → Option Value} {base : Heap} {f : Addr} {fd : FuncData} (F : Fun K "_law_drawn" "_law_drawn" s__law_drawn f fd) (g : mg "_law_drawn" = some (.ref f)) (d__law_mixed : DefOk P w K mg base "_law_mixed" 1 ["_law_cell", "_law_k"] f__law_mixed) (d__law_fract : DefOk P w K mg base "_law_fract" 1 ["_law_above", "_law_below"] f__law_fract) :
    DefOk P w K mg base "_law_drawn" 2 ["_law_cell"] f__law_drawn := DefOk.mk' F g (fn_ok F c__law_drawn List.nodup_nil (by
  rintro X W cdv A outer s H E rfl hr tk hp
  exact (ss_cons (s_set 1 (f := true) c__law_drawn.nd (BOk.eo (b_sub (hu_of hr.r) (EOk.bo (e_lst (a_cons (e_op o_mod (EOk.bo (e_fn d__law_mixed hr tk (a_cons (e_var 0) (a_cons e_int a_nil)))) (EOk.bo e_int)) (a_cons (e_fn d__law_mixed hr tk (a_cons (e_var 0) (a_cons e_int a_nil))) (a_cons (e_op o_mod (b_var 0) (EOk.bo (e_op o_pow (EOk.bo e_int) (EOk.bo e_int)))) a_nil))))) (EOk.bo (e_op o_mod (EOk.bo (e_fn d__law_mixed hr tk (a_cons (e_var 0) (a_cons e_int a_nil)))) (EOk.bo e_int))))))
    (ss_cons (s_set 2 (f := true) c__law_drawn.nd (BOk.eo (b_sub (hu_of hr.r) (EOk.bo (e_lst (a_cons (e_op o_add (EOk.bo e_int) (EOk.bo (e_op o_mod (EOk.bo (e_fn d__law_mixed hr tk (a_cons (e_var 0) (a_cons e_int a_nil)))) (EOk.bo e_int)))) (a_cons (e_op o_add (EOk.bo e_int) (EOk.bo (e_fn d__law_mixed hr tk (a_cons (e_var 0) (a_cons e_int a_nil))))) (a_cons (e_op o_add (EOk.bo e_int) (EOk.bo (e_op o_mod (b_var 0) (EOk.bo (e_op o_pow (EOk.bo e_int) (EOk.bo e_int)))))) a_nil))))) (EOk.bo (e_op o_mod (EOk.bo (e_fn d__law_mixed hr tk (a_cons (e_var 0) (a_cons e_int a_nil)))) (EOk.bo e_int))))))
    (ss_cons (s_set 1 (f := true) c__law_drawn.nd (e_op o_mul (b_var 1) (b_sub (hu_of hr.r) (EOk.bo (e_lst (a_cons e_int (a_cons (e_neg (EOk.bo e_int)) (a_cons e_int a_nil))))) (EOk.bo (e_op o_mod (EOk.bo (e_fn d__law_mixed hr tk (a_cons (e_var 0) (a_cons e_int a_nil)))) (EOk.bo e_int))))))
    (ss_cons (s_set 3 (f := true) c__law_drawn.nd (e_op o_mod (EOk.bo (e_fn d__law_mixed hr tk (a_cons (e_var 0) (a_cons e_int a_nil)))) (EOk.bo e_int)))
    (ss_cons (s_if (t_cmp (o_eq hr.r) (b_var 3) (EOk.bo e_int)) (ss_one (s_ret (e_fn d__law_fract hr tk (a_cons (e_op o_add (EOk.bo (e_op o_mul (EOk.bo e_int) (b_var 1))) (EOk.bo e_int)) (a_cons e_int a_nil))))) ss_nil)
    (ss_cons (s_if (t_cmp (o_eq hr.r) (b_var 3) (EOk.bo e_int)) (ss_one (s_ret (e_fn d__law_fract hr tk (a_cons (e_var 1) (a_cons e_int a_nil))))) ss_nil)
    (ss_one (s_ret (e_fn d__law_fract hr tk (a_cons (e_var 1) (a_cons (e_var 2) a_nil))))))))))))) fun _ _ _ _ _ _ us hl => match us, hl with | [_], _ => rfl
abbrev s_law : Stmt := topS 7
abbrev N_law : List Str := ["_law_script", "_law_k", "_law_cell", "_law_one", "_law_found", "_law_beside", "_law_above", "_law_below", "_law_part"]
theorem c_law : FnScope N_law ["_law_script"] (defScope s_law) := ⟨rfl, rfl, rfl, by decide +kernel, rfl, by decide +kernel, by decide +kernel⟩
theorem b_law_fn {P : Program} {w : World} {K : PySem.W.Frag} {mg : Str → Option Value} {base : Heap} {f : Addr} {fd : FuncData} (F : Fun K "law" "law" s_law f fd) (d_to_tenths : DefOk P w K mg base "to_tenths" 2 ["one"] f_to_tenths) (d__law_fract : DefOk P w K mg base "_law_fract" 1 ["_law_above", "_law_below"] f__law_fract) (d__law_drawn : DefOk P w K mg base "_law_drawn" 2 ["_law_cell"] f__law_drawn) (m_all : mg "all" = none) (m_bool : mg "bool" = none) (m_enumerate : mg "enumerate" = none) (m_int : mg "int" = none) (m_isinstance : mg "isinstance" = none) (m_len : mg "len" = none) (m_list : mg "list" = none) (m_tuple : mg "tuple" = none) : FnG P w K mg base 3 f fd ["_law_script"] (spF ⟨K, mg⟩ 1 [] f_law) := fn_ok F c_law List.nodup_nil (by
  rintro X W cdv A outer s H E rfl hr tk hp
  exact (ss_cons (s_for hp rfl (i_enum (bor := false) m_enumerate (a_cons (e_op o_add (EOk.bo (e_lst (a_cons e_int (a_cons e_int (a_cons e_int a_nil))))) (EOk.bo (e_callTy c_list m_list (by decide +kernel) (ab_cons (EOk.bo (e_slice (b_var 0) p_none (p_some (EOk.bo e_int)))) ab_nil)))) a_nil)) (g_tup rfl (gs_cons (g_nm 1 c_law.nd) (gs_cons (g_nm 2 c_law.nd) gs_nil)))
    (ss_cons (s_set 3 (f := true) c_law.nd (e_fn d__law_drawn hr tk (a_cons (e_op o_add (b_var 2) (b_var 1)) a_nil)))
    (ss_cons (s_set 4 (f := true) c_law.nd (e_fn d_to_tenths hr tk (a_cons (e_var 3) a_nil)))
    (ss_cons (s_if (WOk.t (w_or (t_not (t_val (e_isTy "tuple" m_isinstance m_tuple (by decide +kernel) (b_var 4)))) (w_or1 (t_cmp (o_ne hr.r) (EOk.bo (e_callB c_len m_len (by decide +kernel) (ab_cons (b_var 4) ab_nil))) (EOk.bo e_int))))) (ss_one (s_ret e_bl)) ss_nil)
    (ss_cons (s_asg (f := true) (e_var 4) (g_tup rfl (gs_cons (g_nm 6 c_law.nd) (gs_cons (g_nm 7 c_law.nd) gs_nil))))
    (ss_cons (s_if (t_not (t_val (e_callB (c_all rfl) m_all (by decide +kernel) (ab_cons (EOk.bo (e_lc rfl c_law.nd (bor := true) (own := [("_law_part", 8)]) (i_seq (bor := true) (e_var 4)) (blkOk_by (own := [("_law_part", 8)]) (N := N_law) (sc := defScope s_law) (by decide +kernel)) (by decide) (fun _ _ _ _ _ => (g_nm 8 c_law.nd)) (fun _ _ _ _ _ => ts_nil) (fun _ _ _ _ _ => (e_and (e_isTy "int" m_isinstance m_int (by decide +kernel) (b_var 8)) (e_one (e_not (e_isTy "bool" m_isinstance m_bool (by decide +kernel) (b_var 8)))))))) ab_nil)))) (ss_one (s_ret e_bl)) ss_nil)
    (ss_cons (s_if (WOk.t (w_or (t_cmp o_lt (b_var 7) (EOk.bo e_int)) (w_or (t_cmp (o_ne hr.r) (EOk.bo (e_op o_mod (EOk.bo e_int) (b_var 7))) (EOk.bo e_int)) (w_or1 (t_cmp (o_ne hr.r) (EOk.bo (e_fn d__law_fract hr tk (a_cons (e_var 6) (a_cons (e_var 7) a_nil)))) (b_var 4)))))) (ss_one (s_ret e_bl)) ss_nil)
    (ss_cons (s_set 5 (f := true) c_law.nd (e_op o_mul (EOk.bo e_int) (EOk.bo (e_op o_sub (EOk.bo (e_op o_mul (b_var 6) (b_sub (hu_of hr.r) (b_var 3) (EOk.bo e_int)))) (EOk.bo (e_op o_mul (b_sub (hu_of hr.r) (b_var 3) (EOk.bo e_int)) (b_var 7)))))))
    (ss_one (s_if (WOk.t (w_or (t_not (t_chain o_lt o_le (EOk.bo (e_op o_sub (EOk.bo e_int) (EOk.bo (e_op o_mul (b_var 7) (b_sub (hu_of hr.r) (b_var 3) (EOk.bo e_int)))))) (b_var 5) (EOk.bo (e_op o_mul (b_var 7) (b_sub (hu_of hr.r) (b_var 3) (EOk.bo e_int)))))) (w_or1 (t_cmp (o_ne hr.r) (EOk.bo (e_fn d_to_tenths hr tk (a_cons (e_var 4) a_nil))) (b_var 4))))) (ss_one (s_ret e_bl)) ss_nil))))))))))
    (ss_one (s_ret e_bl))))
def h_fract : He.DefD := ⟨("fract", none), "fract", "fract", defArgs s_fract, defBody s_fract, defScope s_fract, [], []⟩
def h__law_mixed : He.DefD := ⟨("_law_mixed", none), "_law_mixed", "_law_mixed", defArgs s__law_mixed, defBody s__law_mixed, defScope s__law_mixed, [], []⟩
def h__law_fract : He.DefD := ⟨("_law_fract", none), "_law_fract", "_law_fract", defArgs s__law_fract, defBody s__law_fract, defScope s__law_fract, [], []⟩
def h_to_tenths : He.DefD := ⟨("to_tenths", none), "to_tenths", "to_tenths", defArgs s_to_tenths, defBody s_to_tenths, defScope s_to_tenths, [], []⟩
def h__law_drawn : He.DefD := ⟨("_law_drawn", none), "_law_drawn", "_law_drawn", defArgs s__law_drawn, defBody s__law_drawn, defScope s__law_drawn, [], []⟩
def h_law : He.DefD := ⟨("law", none), "law", "law", defArgs s_law, defBody s_law, defScope s_law, [], []⟩
def fn : List He.DefD := [h_fract, h__law_mixed, h__law_fract, h_to_tenths, h__law_drawn, h_law]
def fa : List He.Fa := [.glo "fract", .glo "_law_mixed", .glo "_law_fract", .glo "to_tenths", .glo "_law_drawn", .glo "law", .free "abs", .free "all", .free "bool", .free "enumerate", .free "int", .free "isinstance", .free "len", .free "list", .free "tuple"]
def loose : List PySem.Str := ["fract", "to_tenths", "_law_mixed", "_law_fract", "_law_drawn"]
abbrev R : PySem.W.OpenRow := PySem.W.OpenLaw.row PySem.Challenge.rw_regattaroll_k02_nearest_tenths
abbrev hk : PySem.W.Hook := He.hookD 4 fa fn
def ob (s : PySem.W.SharedT) : He.AlD := He.obsDG 4 fa fn (HandSHeadRun.getT s)
theorem ob_eq (s : PySem.W.SharedT) : ob s = hk.obs s.abs := He.obsDG_eq (HandSHeadRun.getT_eq s)
theorem run (w : World) : HandSHeadRun.RunEq R (PySem.W.view R.prog [7]) hk ob 2000 loose w := by
  intro os
  kernel_rfl
theorem facts (law_true : ∀ ns : List Int, ns.length ≤ 63 → ∃ os, f_law [.scr ns] = .ok (.bl true) os) {P : Program} {w : World} {K : PySem.W.Frag} {h : Heap} {mg : Str → Option Value} {f : Addr} (X : K.In h) (G : h.Ns mainGlobals mg) (hfa : mg ("law" : Str) = some (.ref f)) (c : He.SaysD fa fn K) :
    ∃ (fd : FuncData) (φ : List D → FR), (∀ (s : Shared) (u : Value), BindsTo s fd ⟨[u], []⟩ [("_law_script", u)]) ∧ (∀ ns : List Int, ns.length ≤ 63 → ∃ os, φ [.scr ns] = .ok (.bl true) os) ∧ ∀ base : Heap, K.In base → base.Ns mainGlobals mg → FnG P w K mg base 3 f fd ["_law_script"] (spF ⟨K, mg⟩ 1 [] φ) := by
  have m_abs : mg "abs" = none := He.free_ok X G (c.fact 6 (f := .free "abs") rfl)
  have m_all : mg "all" = none := He.free_ok X G (c.fact 7 (f := .free "all") rfl)
  have m_bool : mg "bool" = none := He.free_ok X G (c.fact 8 (f := .free "bool") rfl)
  have m_enumerate : mg "enumerate" = none := He.free_ok X G (c.fact 9 (f := .free "enumerate") rfl)
  have m_int : mg "int" = none := He.free_ok X G (c.fact 10 (f := .free "int") rfl)
  have m_isinstance : mg "isinstance" = none := He.free_ok X G (c.fact 11 (f := .free "isinstance") rfl)
  have m_len : mg "len" = none := He.free_ok X G (c.fact 12 (f := .free "len") rfl)
  have m_list : mg "list" = none := He.free_ok X G (c.fact 13 (f := .free "list") rfl)
  have m_tuple : mg "tuple" = none := He.free_ok X G (c.fact 14 (f := .free "tuple") rfl)
  obtain ⟨fd_fract, F_fract⟩ := c.def_ 0 (d := h_fract) rfl
  obtain ⟨fd__law_mixed, F__law_mixed⟩ := c.def_ 1 (d := h__law_mixed) rfl
  obtain ⟨fd__law_fract, F__law_fract⟩ := c.def_ 2 (d := h__law_fract) rfl
  obtain ⟨fd_to_tenths, F_to_tenths⟩ := c.def_ 3 (d := h_to_tenths) rfl
  obtain ⟨fd__law_drawn, F__law_drawn⟩ := c.def_ 4 (d := h__law_drawn) rfl
  obtain ⟨fd_law, F_law⟩ := c.def_ 5 (d := h_law) rfl
  have gl := He.glo_ok X G (c.fact 5 (f := .glo "law") rfl)
  have e := hfa.symm.trans gl
  cases e
  refine ⟨fd_law, f_law, fun s u => FunD.bindsA (ps := ["_law_script"]) F_law (fun _ _ _ _ _ _ us hl => match us, hl with | [_], _ => rfl) s [u] rfl, law_true, fun base _ _ => ?_⟩
  have d_fract : DefOk P w K mg base "fract" 1 ["above", "below"] f_fract := o_fract (fun_of F_fract) (He.glo_ok X G (c.fact 0 (f := .glo "fract") rfl)) m_abs
  have d__law_mixed : DefOk P w K mg base "_law_mixed" 1 ["_law_cell", "_law_k"] f__law_mixed := o__law_mixed (fun_of F__law_mixed) (He.glo_ok X G (c.fact 1 (f := .glo "_law_mixed") rfl)) 
  have d__law_fract : DefOk P w K mg base "_law_fract" 1 ["_law_above", "_law_below"] f__law_fract := o__law_fract (fun_of F__law_fract) (He.glo_ok X G (c.fact 2 (f := .glo "_law_fract") rfl)) m_abs
  have d_to_tenths : DefOk P w K mg base "to_tenths" 2 ["one"] f_to_tenths := o_to_tenths (fun_of F_to_tenths) (He.glo_ok X G (c.fact 3 (f := .glo "to_tenths") rfl)) d_fract
  have d__law_drawn : DefOk P w K mg base "_law_drawn" 2 ["_law_cell"] f__law_drawn := o__law_drawn (fun_of F__law_drawn) (He.glo_ok X G (c.fact 4 (f := .glo "_law_drawn") rfl)) d__law_mixed d__law_fract
  exact b_law_fn (fun_of F_law) d_to_tenths d__law_fract d__law_drawn m_all m_bool m_enumerate m_int m_isinstance m_len m_list m_tuple
theorem holds (law_true : ∀ ns : List Int, ns.length ≤ 63 → ∃ os, f_law [.scr ns] = .ok (.bl true) os) : PySem.Challenge.rw_regattaroll_k02_nearest_tenths.Holds := by
  w_on; o_law
  refine HandSHeadRun.head_any (r := R) (q := PySem.W.view R.prog [7]) (H := hk) (ob := ob) (M := 2000) (loose := loose) (d := HandSHeadRun.topDef R.prog 7) (kwd := []) ob_eq
    (by kernel_rfl) (fun s => by kernel_rfl) run (by kernel_rfl) (by kernel_rfl) (by kernel_rfl) (by rfl) (by first | assumption | decide +kernel) (by decide +kernel) ⟨rfl, rfl, rfl, rfl, rfl, by decide +kernel⟩ ?hw ?hc
  case hw => w_witness2
  case hc =>
    refine walkG (l := PySem.Challenge.rw_regattaroll_k02_nearest_tenths) (n := 63) (k := 3) (x := "_law_script") rfl (by decide) (by kernel_rfl) ⟨rfl, by decide, by decide⟩ ?F
    intro w mg fa h Y G hmg0
    obtain ⟨K, KX, c⟩ := Y
    have hmg : mg ("law" : PySem.Str) = some (.ref fa) := by
      have e : (HandSHeadRun.topDef R.prog 7).name = ("law" : PySem.Str) := by kernel_rfl
      rw [← e]
      exact hmg0
    obtain ⟨fd, φ, hb, hφ, hF⟩ := facts law_true (P := R.prog) (w := w) KX G hmg c
    exact ⟨K, fd, φ, KX, hb, hφ, hF⟩
end Lk02
theorem PySem.Challenge.cw_regattaroll_k02_nearest_tenths_holds : PySem.Challenge.rw_regattaroll_k02_nearest_tenths.Holds :=
  Lk02.holds Lk02.law_true
