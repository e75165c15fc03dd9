import PyProof.Rows.All
import Wide.All
import OpenK.AllK
import Wide.FinOn
import HandS.ForMost
import HandS.Exc
import HandS.TryOnly
import HandS.ExcOwn
import HandS.WordsExc
import HandS.Lambda
import HandS.Wide
import HandS.Style
import HandS.Deep
import HandS.IsInst
import HandS.StrMore
import HandS.RaiseMore
import HandS.Head0
import HandS.Head1
import HandS.Head2
import HandS.HeadEnd
import HandS.HeadHook1
import HandS.HeadHook2
import HandS.FStr
import PyProof.StrLawsRepr
import HandS.Finally
import HandS.TryMany
import HandS.ExcIs
import HandS.Codes
import HandS.Conv
import KE.KDictSum
import PyProof.TupleOfGen
import HandS.ListItems
import HandS.WordsDict
import HandS.SetFor
import HandS.Strs
import KE.KDictPairs
import KE.SortData
import KE.SortKeyHeap
import HandS.SortInts
import KE.KStateDown
import Lean
import PySem.Challenge.RW_regattaroll_k22_whole_what_counts
set_option Elab.async false
set_option linter.all false
set_option maxRecDepth 100000
set_option maxHeartbeats 8000000
/-! RL, the core: pure data, how it lies in the heap. -/
namespace RL
open PySem PySem.Spec PyProof.Rows L2
abbrev Sl := L2.St

/-- pure data; the flag of a list, dict, object: it is owned (unique, may be changed) -/
inductive D where
  | non | bl (b : Bool) | int (i : Int) | str (x : Str)
  | tup (ds : List D)
  | lst (o : Bool) (ds : List D)
  | dct (o : Bool) (ks : List Key) (ds : List D)
  | obj (o : Bool) (c : Str) (ns : List Str) (ds : List D)
  | exn (c : Str) (ns : List Str) (ds : List D)
  /-- the script: a list that is locked -/
  | scr (ns : List Int)
  /-- a tuple that is known to its object: a plain one -/
  | tux (ds : List D)

mutual
def D.clean : D → Bool
  | .tup ds => cleanL ds
  | .tux ds => cleanL ds
  | .lst o ds => !o && cleanL ds
  | .dct o _ ds => !o && cleanL ds
  | .obj o _ _ ds => !o && cleanL ds
  | _ => true
def cleanL : List D → Bool
  | [] => true
  | d :: ds => d.clean && cleanL ds
end
mutual
def D.frz : D → D
  | .tup ds => .tup (frzL ds)
  | .tux ds => .tux (frzL ds)
  | .lst _ ds => .lst false (frzL ds)
  | .dct _ ks ds => .dct false ks (frzL ds)
  | .obj _ c ns ds => .obj false c ns (frzL ds)
  | d => d
def frzL : List D → List D
  | [] => []
  | d :: ds => d.frz :: frzL ds
end

/-- the ground's facts: the written part, the module's names -/
structure Gd where
  K : PySem.W.Frag
  mg : Str → Option Value

/-- the code objects of the written part: their tables, and what a lambda made there is called -/
def tabOf (o : Obj) : Option (Addr × Str) := match o.data, o.cls with
  | .fields vs, .type t => (match vs.getD 11 .none, vs.getD 18 .none, vs.getD 7 .none, vs.getD 9 .none, vs.getD 10 .none, vs.getD 1 .none with
    | .ref T, .str _ _, .int _ _, .bool _, .int _ _, .str q _ => if t = "code" then some (T, q ++ ".<locals>." ++ "<lambda>") else none
    | _, _, _, _, _, _ => none)
  | _, _ => none
theorem tabOf_code {o : Obj} {T : Addr} {q : Str} (e : tabOf o = some (T, q)) {h : Heap} {c : Addr} (hc : h.get? c = some o) (ne : c ≠ T) : PySem.W.CodeHd h c T := by
  obtain ⟨cls, dct, dat, sl⟩ := o
  unfold tabOf at e
  split at e
  · rename_i vs t hd hcl
    simp only at hd hcl
    subst hd
    subst hcl
    split at e
    · rename_i T' s18 t18 i7 t7 b9 i10 t10 q' t1 h11 h18 h7 h9 h10 h1
      split at e
      · rename_i ht
        subst ht
        have e' := Prod.mk.inj (Option.some.inj e)
        obtain ⟨rfl, _⟩ := e'
        have h11' : vs[11]? = some (.ref T') := by
          rw [Array.getD_eq_getD_getElem?] at h11
          cases z : vs[11]? with
          | none => rw [z] at h11; cases h11
          | some w => rw [z] at h11; exact congrArg some h11
        exact ⟨_, vs, _, _, _, _, _, _, _, hc, rfl, rfl, h11', h11, h18, h7, h9, h10, ne⟩
      · cases e
    · cases e
  · cases e
def tabsOf (K : PySem.W.Frag) : List (Addr × Str) := K.filterMap fun p => tabOf p.2
/-- a table as it is known: what its lambdas are called -/
abbrev mark (q : Str) : HO := .tbl #[.int (-1) 0, .int (-1) 0, .str q 0]
def Marks (G : Gd) (P : Hp) : Prop := ∀ p ∈ tabsOf G.K, P p.1 = some (mark p.2)
theorem Marks.mono {G : Gd} {P P' : Hp} (m : Marks G P) (s : Same P P') : Marks G P' := fun p hp => s _ _ (m p hp)
/-- an exception that was caught, as a value -/
def ExT (cls : Value) (d : Option Addr) (a : Addr) : HO := .ext fun h => ∃ (oe : Obj) (vs : Array Value), h.get? a = some oe ∧ oe.cls = cls ∧ oe.dict = d ∧ oe.data = .fields vs
/-- data that are no objects -/
def D.flat? : D → Option V
  | .non => some .non
  | .bl b => some (.bl b)
  | .int i => some (.int i)
  | .str x => some (.str x)
  | _ => none
/-- an exception's fields -/
def XF (P : Hp) (dx : Option Addr) (ns : List Str) (ds : List D) : Prop := (ns = [] ∧ ds = [] ∧ dx = none) ∨ ns ≠ [] ∧ ∃ d vs, dx = some d ∧ P d = some (.xd (ns.zip vs)) ∧ ns.length = vs.length ∧ ds.mapM D.flat? = some vs
theorem XF.mono {P P' : Hp} {dx : Option Addr} {ns : List Str} {ds : List D} (s : Same P P') (h : XF P dx ns ds) : XF P' dx ns ds := by
  rcases h with h | ⟨h0, d, vs, h1, h2, h3, h4⟩
  · exact .inl h
  · exact .inr ⟨h0, d, vs, h1, s _ _ h2, h3, h4⟩
mutual
/-- the value v is d: what never changes any more stands in P, what is owned stands in H, at A -/
inductive Rel (G : Gd) (P H : Hp) : V → D → List Addr → Prop
  | non : Rel G P H .non .non []
  | bl (b : Bool) : Rel G P H (.bl b) (.bl b) []
  | int (i : Int) : Rel G P H (.int i) (.int i) []
  | str (x : Str) : Rel G P H (.str x) (.str x) []
  | tup {a : Addr} {xs : List V} {ds : List D} {A : List Addr} : SqT G.K P a xs → RelL G P H xs ds A → Rel G P H (.ref a) (.tup ds) A
  | tux {a : Addr} {o : Obj} {xs : List V} {ds : List D} : P a = some (.frz o (.tup xs)) → o.dict = none → RelL G P H xs ds [] → Rel G P H (.ref a) (.tux ds) []
  | scr {a : Addr} {ns : List Int} : SqL G.K P a (ns.map V.int) → Rel G P H (.ref a) (.scr ns) []
  | lstF {a : Addr} {xs : List V} {ds : List D} : P a = some (.lst xs) → RelL G P H xs ds [] → Rel G P H (.ref a) (.lst false ds) []
  | lstO {a : Addr} {xs : List V} {ds : List D} {A : List Addr} : H a = some (.lst xs) → RelL G P H xs ds A → Rel G P H (.ref a) (.lst true ds) (a :: A)
  | dctF {a : Addr} {ks : List Key} {vs : List V} {ds : List D} : P a = some (.dK (ks.zip vs)) → ks.length = vs.length → RelL G P H vs ds [] → Rel G P H (.ref a) (.dct false ks ds) []
  | dctO {a : Addr} {ks : List Key} {vs : List V} {ds : List D} {A : List Addr} : H a = some (.dK (ks.zip vs)) → ks.length = vs.length → RelL G P H vs ds A → Rel G P H (.ref a) (.dct true ks ds) (a :: A)
  | objF {a dx C : Addr} {c : Str} {ns : List Str} {vs : List V} {ds : List D} : G.mg c = some (.ref C) → P a = some (.ins C dx (ns.zip vs)) → ns.length = vs.length → RelL G P H vs ds [] → Rel G P H (.ref a) (.obj false c ns ds) []
  | objO {a dx C : Addr} {c : Str} {ns : List Str} {vs : List V} {ds : List D} {A : List Addr} : G.mg c = some (.ref C) → H a = some (.ins C dx (ns.zip vs)) → ns.length = vs.length → RelL G P H vs ds A → Rel G P H (.ref a) (.obj true c ns ds) (a :: A)
  | exn {a C : Addr} {dx : Option Addr} {c : Str} {ns : List Str} {ds : List D} : G.mg c = some (.ref C) → P a = some (ExT (.ref C) dx a) → XF P dx ns ds → Rel G P H (.ref a) (.exn c ns ds) []
inductive RelL (G : Gd) (P H : Hp) : List V → List D → List Addr → Prop
  | nil : RelL G P H [] [] []
  | cons {v : V} {d : D} {A : List Addr} {vs : List V} {ds : List D} {B : List Addr} : Rel G P H v d A → RelL G P H vs ds B → RelL G P H (v :: vs) (d :: ds) (A ++ B)
end

theorem Same.sqT {K : PySem.W.Frag} {H H' : Hp} {a : Addr} {xs : List V} (e : Same H H') (h : SqT K H a xs) : SqT K H' a xs := by
  rcases h with (h | ⟨o, h⟩) | h
  · exact .inl (.inl (e _ _ h))
  · exact .inl (.inr ⟨o, e _ _ h⟩)
  · exact .inr h

section
variable {G : Gd} {P P' H H' : Hp}
mutual
theorem Rel.mono (s : Same P P') : ∀ {v : V} {d : D} {A : List Addr}, (∀ b ∈ A, H' b = H b) → Rel G P H v d A → Rel G P' H' v d A
  | _, _, _, _, .non => .non
  | _, _, _, _, .bl b => .bl b
  | _, _, _, _, .int i => .int i
  | _, _, _, _, .str x => .str x
  | _, _, _, h, .tup q r => .tup (Same.sqT s q) (RelL.mono s h r)
  | _, _, _, h, .scr q => .scr (Same.seq s q)
  | _, _, _, h, .tux q e r => .tux (s _ _ q) e (RelL.mono s (by simp) r)
  | _, _, _, h, .lstF q r => .lstF (s _ _ q) (RelL.mono s (by simp) r)
  | _, _, _, h, .lstO q r => .lstO (by rw [h _ List.mem_cons_self]; exact q) (RelL.mono s (fun b hb => h b (List.mem_cons_of_mem _ hb)) r)
  | _, _, _, h, .dctF q l r => .dctF (s _ _ q) l (RelL.mono s (by simp) r)
  | _, _, _, h, .dctO q l r => .dctO (by rw [h _ List.mem_cons_self]; exact q) l (RelL.mono s (fun b hb => h b (List.mem_cons_of_mem _ hb)) r)
  | _, _, _, h, .objF c q l r => .objF c (s _ _ q) l (RelL.mono s (by simp) r)
  | _, _, _, h, .objO c q l r => .objO c (by rw [h _ List.mem_cons_self]; exact q) l (RelL.mono s (fun b hb => h b (List.mem_cons_of_mem _ hb)) r)
  | _, _, _, h, .exn c q x => .exn c (s _ _ q) (x.mono s)
theorem RelL.mono (s : Same P P') : ∀ {vs : List V} {ds : List D} {A : List Addr}, (∀ b ∈ A, H' b = H b) → RelL G P H vs ds A → RelL G P' H' vs ds A
  | _, _, _, _, .nil => .nil
  | _, _, _, h, .cons r t => .cons (Rel.mono s (fun b hb => h b (List.mem_append_left _ hb)) r) (RelL.mono s (fun b hb => h b (List.mem_append_right _ hb)) t)
end

mutual
/-- what is owned stands in H -/
theorem Rel.at : ∀ {v : V} {d : D} {A : List Addr}, Rel G P H v d A → ∀ b ∈ A, ∃ o, H b = some o
  | _, _, _, .tup _ r, b, hb => RelL.at r b hb
  | _, _, _, .lstO q r, b, hb => (List.mem_cons.mp hb).elim (fun e => e ▸ ⟨_, q⟩) (RelL.at r b)
  | _, _, _, .dctO q _ r, b, hb => (List.mem_cons.mp hb).elim (fun e => e ▸ ⟨_, q⟩) (RelL.at r b)
  | _, _, _, .objO _ q _ r, b, hb => (List.mem_cons.mp hb).elim (fun e => e ▸ ⟨_, q⟩) (RelL.at r b)
  | _, _, _, .non, b, hb => by simp at hb
  | _, _, _, .bl _, b, hb => by simp at hb
  | _, _, _, .int _, b, hb => by simp at hb
  | _, _, _, .str _, b, hb => by simp at hb
  | _, _, _, .lstF _ _, b, hb => by simp at hb
  | _, _, _, .scr _, b, hb => by simp at hb
  | _, _, _, .tux _ _ _, b, hb => by simp at hb
  | _, _, _, .dctF _ _ _, b, hb => by simp at hb
  | _, _, _, .objF _ _ _ _, b, hb => by simp at hb
  | _, _, _, .exn _ _ _, b, hb => by simp at hb
theorem RelL.at : ∀ {vs : List V} {ds : List D} {A : List Addr}, RelL G P H vs ds A → ∀ b ∈ A, ∃ o, H b = some o
  | _, _, _, .nil, b, hb => by simp at hb
  | _, _, _, .cons r t, b, hb => (List.mem_append.mp hb).elim (Rel.at r b) (RelL.at t b)
end

mutual
/-- what is owned is not locked -/
theorem Rel.unl : ∀ {v : V} {d : D} {A : List Addr}, Rel G P H v d A → ∀ b ∈ A, ∀ o u, H b ≠ some (.frz o u)
  | _, _, _, .tup _ r, b, hb => RelL.unl r b hb
  | _, _, _, .lstO q r, b, hb => (List.mem_cons.mp hb).elim (fun e o u z => by rw [e, q] at z; cases z) (RelL.unl r b)
  | _, _, _, .dctO q _ r, b, hb => (List.mem_cons.mp hb).elim (fun e o u z => by rw [e, q] at z; cases z) (RelL.unl r b)
  | _, _, _, .objO _ q _ r, b, hb => (List.mem_cons.mp hb).elim (fun e o u z => by rw [e, q] at z; cases z) (RelL.unl r b)
  | _, _, _, .non, b, hb => by simp at hb
  | _, _, _, .bl _, b, hb => by simp at hb
  | _, _, _, .int _, b, hb => by simp at hb
  | _, _, _, .str _, b, hb => by simp at hb
  | _, _, _, .lstF _ _, b, hb => by simp at hb
  | _, _, _, .scr _, b, hb => by simp at hb
  | _, _, _, .tux _ _ _, b, hb => by simp at hb
  | _, _, _, .dctF _ _ _, b, hb => by simp at hb
  | _, _, _, .objF _ _ _ _, b, hb => by simp at hb
  | _, _, _, .exn _ _ _, b, hb => by simp at hb
theorem RelL.unl : ∀ {vs : List V} {ds : List D} {A : List Addr}, RelL G P H vs ds A → ∀ b ∈ A, ∀ o u, H b ≠ some (.frz o u)
  | _, _, _, .nil, b, hb => by simp at hb
  | _, _, _, .cons r t, b, hb => (List.mem_append.mp hb).elim (Rel.unl r b) (RelL.unl t b)
end

mutual
/-- nothing owned: no address -/
theorem Rel.clean : ∀ {v : V} {d : D} {A : List Addr}, Rel G P H v d A → d.clean = true → A = []
  | _, _, _, .tup _ r, c => RelL.clean r (by simpa [D.clean] using c)
  | _, _, _, .lstO _ _, c => by simp [D.clean] at c
  | _, _, _, .dctO _ _ _, c => by simp [D.clean] at c
  | _, _, _, .objO _ _ _ _, c => by simp [D.clean] at c
  | _, _, _, .non, c => rfl
  | _, _, _, .bl _, c => rfl
  | _, _, _, .int _, c => rfl
  | _, _, _, .str _, c => rfl
  | _, _, _, .lstF _ _, c => rfl
  | _, _, _, .scr _, c => rfl
  | _, _, _, .tux _ _ _, c => rfl
  | _, _, _, .dctF _ _ _, c => rfl
  | _, _, _, .objF _ _ _ _, c => rfl
  | _, _, _, .exn _ _ _, c => rfl
theorem RelL.clean : ∀ {vs : List V} {ds : List D} {A : List Addr}, RelL G P H vs ds A → cleanL ds = true → A = []
  | _, _, _, .nil, c => rfl
  | _, _, _, .cons r t, c => by
    simp only [cleanL, Bool.and_eq_true] at c
    rw [Rel.clean r c.1, RelL.clean t c.2]
    rfl
end
theorem RelL.length : ∀ {vs : List V} {ds : List D} {A : List Addr}, RelL G P H vs ds A → vs.length = ds.length
  | _, _, _, .nil => rfl
  | _, _, _, .cons _ t => congrArg (· + 1) (RelL.length t)
theorem RelL.get : ∀ {vs : List V} {ds : List D} {A : List Addr} {i : Nat} {d : D}, RelL G P H vs ds A → ds[i]? = some d → ∃ v B, vs[i]? = some v ∧ Rel G P H v d B ∧ (∀ b ∈ B, b ∈ A)
  | _, _, _, _, _, .nil, e => by simp at e
  | _, _, _, 0, _, .cons r t, e => by simp at e; subst e; exact ⟨_, _, rfl, r, fun b hb => List.mem_append_left _ hb⟩
  | _, _, _, i + 1, _, .cons r t, e => by
    obtain ⟨v, B, h1, h2, h3⟩ := RelL.get (i := i) t (by simpa using e)
    exact ⟨v, B, by simpa using h1, h2, fun b hb => List.mem_append_right _ (h3 b hb)⟩
end

/-- P is known of H: all as it is, but a dict may be locked, a table may grow -/
def Under (P H : Hp) : Prop := ∀ a u, P a = some u → H a = some u ∨ (∃ o kvs, u = .dK kvs ∧ H a = some (.frz o u)) ∨
  ∃ q ps, u = mark q ∧ H a = some (.tbl ps) ∧ TriplesOk ps.toList ∧ ∀ (pos : Pos) (cv : Value), codeAmong pos ps.toList = some cv → ∃ c, cv = .ref c ∧ P c = some (LamX.CodeO c q)
/-- from (P, H) to (P', H'), where what stands at A may have changed, or is given up -/
structure Ext (P H P' H' : Hp) (A : List Addr) : Prop where
  same : Same P P'
  und : Under P' H'
  keep : ∀ b o, H b = some o → P b = none → b ∉ A → H' b = some o
  lck : ∀ b o u, H b = some (.frz o u) → H' b = some (.frz o u)
  new : ∀ b o, P' b = some o → P b = some o ∨ H b = none ∨ b ∈ A
theorem Under.seqL {K : PySem.W.Frag} {P H : Hp} {a : Addr} {xs : List V} (u : Under P H) (h : SqL K P a xs) : SqL K H a xs := by
  rcases h with (h | ⟨o, h⟩) | h
  · rcases u _ _ h with q | ⟨_, _, e, _⟩ | ⟨_, _, e, _⟩
    · exact .inl (.inl q)
    · cases e
    · cases e
  · rcases u _ _ h with q | ⟨_, _, e, _⟩ | ⟨_, _, e, _⟩
    · exact .inl (.inr ⟨o, q⟩)
    · cases e
    · cases e
  · exact .inr h
theorem Under.seqT {K : PySem.W.Frag} {P H : Hp} {a : Addr} {xs : List V} (u : Under P H) (h : SqT K P a xs) : SqT K H a xs := by
  rcases h with (h | ⟨o, h⟩) | h
  · rcases u _ _ h with q | ⟨_, _, e, _⟩ | ⟨_, _, e, _⟩
    · exact .inl (.inl q)
    · cases e
    · cases e
  · rcases u _ _ h with q | ⟨_, _, e, _⟩ | ⟨_, _, e, _⟩
    · exact .inl (.inr ⟨o, q⟩)
    · cases e
    · cases e
  · exact .inr h
theorem Ext.refl {P H : Hp} {A : List Addr} (u : Under P H) : Ext P H P H A := ⟨Same.refl P, u, fun _ _ h _ _ => h, fun _ _ _ h => h, fun _ _ h => .inl h⟩
/-- what was tracked is tracked -/
theorem Ext.there {P H P' H' : Hp} (e : Ext P H P' H' []) (u : Under P H) {b : Addr} {o : HO} (h : H b = some o) : ∃ o', H' b = some o' := by
  cases q : P b with
  | none => exact ⟨o, e.keep b o h q (by simp)⟩
  | some w =>
    rcases e.und _ _ (e.same _ _ q) with r | ⟨_, _, _, r⟩ | ⟨_, _, _, r, _⟩
    · exact ⟨_, r⟩
    · exact ⟨_, r⟩
    · exact ⟨_, r⟩
theorem Ext.free {P H P' H' : Hp} (e : Ext P H P' H' []) (u : Under P H) {b : Addr} (h : H' b = none) : H b = none := by
  cases q : H b with
  | none => rfl
  | some o =>
    obtain ⟨o', r⟩ := e.there u q
    rw [h] at r; cases r
theorem Ext.trans {P H P1 H1 P2 H2 : Hp} (u : Under P H) (a : Ext P H P1 H1 []) (b : Ext P1 H1 P2 H2 []) : Ext P H P2 H2 [] where
  same := a.same.trans b.same
  und := b.und
  lck := fun c o u h => b.lck c o u (a.lck c o u h)
  keep := fun c o h n hc => by
    refine b.keep c o (a.keep c o h n hc) ?_ hc
    cases q : P1 c with
    | none => rfl
    | some w =>
      rcases a.new c w q with z | z | z
      · rw [n] at z; cases z
      · rw [h] at z; cases z
      · simp at z
  new := fun c o h => by
    rcases b.new c o h with z | z | z
    · exact a.new c o z
    · exact .inr (.inl (a.free u z))
    · simp at z
/-- owned things stay so -/
theorem Ext.own {P H P' H' : Hp} {A : List Addr} (e : Ext P H P' H' []) (ha : ∀ b ∈ A, ∃ o, H b = some o) (hp : ∀ b ∈ A, P b = none) : (∀ b ∈ A, H' b = H b) ∧ ∀ b ∈ A, P' b = none := by
  refine ⟨fun b hb => ?_, fun b hb => ?_⟩
  · obtain ⟨o, q⟩ := ha b hb
    rw [q, e.keep b o q (hp b hb) (by simp)]
  · cases q : P' b with
    | none => rfl
    | some w =>
      obtain ⟨o, r⟩ := ha b hb
      rcases e.new b w q with z | z | z
      · rw [hp b hb] at z; cases z
      · rw [r] at z; cases z
      · simp at z
section
variable {G : Gd} {P P' H H' : Hp}
theorem Rel.ext {v : V} {d : D} {A : List Addr} (r : Rel G P H v d A) (e : Ext P H P' H' []) (hp : ∀ b ∈ A, P b = none) : Rel G P' H' v d A := r.mono e.same (e.own r.at hp).1
theorem RelL.ext {v : List V} {d : List D} {A : List Addr} (r : RelL G P H v d A) (e : Ext P H P' H' []) (hp : ∀ b ∈ A, P b = none) : RelL G P' H' v d A := r.mono e.same (e.own r.at hp).1

/-! ### giving up: what is owned never changes any more -/
/-- P with what H has at A -/
def give (P H : Hp) (A : List Addr) : Hp := fun b => if b ∈ A then H b else P b
theorem give_in {A : List Addr} {b : Addr} (h : b ∈ A) : give P H A b = H b := if_pos h
theorem give_out {A : List Addr} {b : Addr} (h : b ∉ A) : give P H A b = P b := if_neg h
theorem give_same {A : List Addr} (hp : ∀ b ∈ A, P b = none) : Same P (give P H A) := fun b o h => by
  by_cases hb : b ∈ A
  · rw [hp b hb] at h; cases h
  · rw [give_out hb]; exact h
theorem give_und {A : List Addr} (u : Under P H) (hp : ∀ b ∈ A, P b = none) : Under (give P H A) H := fun b o h => by
  by_cases hb : b ∈ A
  · rw [give_in hb] at h; exact .inl h
  · rw [give_out hb] at h
    rcases u b o h with z | z | ⟨q, ps, z1, z2, z3, z4⟩
    · exact .inl z
    · exact .inr (.inl z)
    · refine .inr (.inr ⟨q, ps, z1, z2, z3, fun pos cv hc => ?_⟩)
      obtain ⟨c, e1, e2⟩ := z4 pos cv hc
      exact ⟨c, e1, give_same hp _ _ e2⟩
theorem give_ext {A : List Addr} (u : Under P H) (hp : ∀ b ∈ A, P b = none) : Ext P H (give P H A) H A where
  same := give_same hp
  und := give_und u hp
  keep := fun _ _ h _ _ => h
  lck := fun _ _ _ h => h
  new := fun b o h => by
    by_cases hb : b ∈ A
    · exact .inr (.inr hb)
    · rw [give_out hb] at h; exact .inl h
mutual
theorem Rel.frz (s : Same P P') : ∀ {v : V} {d : D} {A : List Addr}, (∀ b ∈ A, P' b = H b) → Rel G P H v d A → Rel G P' H' v d.frz []
  | _, _, _, _, .non => .non
  | _, _, _, _, .bl b => .bl b
  | _, _, _, _, .int i => .int i
  | _, _, _, _, .str x => .str x
  | _, _, _, h, .tup q r => .tup (Same.sqT s q) (RelL.frz s h r)
  | _, _, _, h, .scr q => .scr (Same.seq s q)
  | _, _, _, h, .tux q e r => .tux (s _ _ q) e (RelL.frz s (by simp) r)
  | _, _, _, h, .lstF q r => .lstF (s _ _ q) (RelL.frz s (by simp) r)
  | _, _, _, h, .lstO q r => .lstF (by rw [h _ List.mem_cons_self]; exact q) (RelL.frz s (fun b hb => h b (List.mem_cons_of_mem _ hb)) r)
  | _, _, _, h, .dctF q l r => .dctF (s _ _ q) l (RelL.frz s (by simp) r)
  | _, _, _, h, .dctO q l r => .dctF (by rw [h _ List.mem_cons_self]; exact q) l (RelL.frz s (fun b hb => h b (List.mem_cons_of_mem _ hb)) r)
  | _, _, _, h, .objF c q l r => .objF c (s _ _ q) l (RelL.frz s (by simp) r)
  | _, _, _, h, .objO c q l r => .objF c (by rw [h _ List.mem_cons_self]; exact q) l (RelL.frz s (fun b hb => h b (List.mem_cons_of_mem _ hb)) r)
  | _, _, _, h, .exn c q x => .exn c (s _ _ q) (x.mono s)
theorem RelL.frz (s : Same P P') : ∀ {vs : List V} {ds : List D} {A : List Addr}, (∀ b ∈ A, P' b = H b) → RelL G P H vs ds A → RelL G P' H' vs (frzL ds) []
  | _, _, _, _, .nil => .nil
  | _, _, _, h, .cons r t => .cons (A := []) (B := []) (Rel.frz s (fun b hb => h b (List.mem_append_left _ hb)) r) (RelL.frz s (fun b hb => h b (List.mem_append_right _ hb)) t)
end
end

/-! ### a def's names -/
abbrev Env := List (Option D)
/-- the names' values -/
inductive EnvRel (G : Gd) (P H : Hp) : Sl → Env → List Addr → Prop
  | nil : EnvRel G P H [] [] []
  | no {s : Option V} {σ : Sl} {ρ : Env} {A : List Addr} : EnvRel G P H σ ρ A → EnvRel G P H (s :: σ) (none :: ρ) A
  | val {v : V} {d : D} {σ : Sl} {ρ : Env} {A B : List Addr} : Rel G P H v d A → EnvRel G P H σ ρ B → EnvRel G P H (some v :: σ) (some d :: ρ) (A ++ B)
section
variable {G : Gd} {P P' H H' : Hp}
theorem EnvRel.mono (s : Same P P') : ∀ {σ : Sl} {ρ : Env} {A : List Addr}, (∀ b ∈ A, H' b = H b) → EnvRel G P H σ ρ A → EnvRel G P' H' σ ρ A
  | _, _, _, _, .nil => .nil
  | _, _, _, h, .no t => .no (t.mono s h)
  | _, _, _, h, .val r t => .val (r.mono s fun b hb => h b (List.mem_append_left _ hb)) (t.mono s fun b hb => h b (List.mem_append_right _ hb))
theorem EnvRel.at : ∀ {σ : Sl} {ρ : Env} {A : List Addr}, EnvRel G P H σ ρ A → ∀ b ∈ A, ∃ o, H b = some o
  | _, _, _, .nil, b, hb => by simp at hb
  | _, _, _, .no t, b, hb => t.at b hb
  | _, _, _, .val r t, b, hb => (List.mem_append.mp hb).elim (r.at b) (t.at b)
theorem EnvRel.unl : ∀ {σ : Sl} {ρ : Env} {A : List Addr}, EnvRel G P H σ ρ A → ∀ b ∈ A, ∀ o u, H b ≠ some (.frz o u)
  | _, _, _, .nil, b, hb => by simp at hb
  | _, _, _, .no t, b, hb => t.unl b hb
  | _, _, _, .val r t, b, hb => (List.mem_append.mp hb).elim (r.unl b) (t.unl b)
theorem EnvRel.ext {σ : Sl} {ρ : Env} {A : List Addr} (r : EnvRel G P H σ ρ A) (e : Ext P H P' H' []) (hp : ∀ b ∈ A, P b = none) : EnvRel G P' H' σ ρ A := r.mono e.same (e.own r.at hp).1
theorem EnvRel.length : ∀ {σ : Sl} {ρ : Env} {A : List Addr}, EnvRel G P H σ ρ A → σ.length = ρ.length
  | _, _, _, .nil => rfl
  | _, _, _, .no t => congrArg (· + 1) t.length
  | _, _, _, .val _ t => congrArg (· + 1) t.length
theorem EnvRel.get : ∀ {σ : Sl} {ρ : Env} {A : List Addr} {i : Nat} {d : D}, EnvRel G P H σ ρ A → ρ[i]? = some (some d) → ∃ v B, σ[i]? = some (some v) ∧ Rel G P H v d B ∧ ∀ b ∈ B, b ∈ A
  | _, _, _, _, _, .nil, e => by simp at e
  | _, _, _, 0, _, .no t, e => by simp at e
  | _, _, _, 0, _, .val r t, e => by simp at e; subst e; exact ⟨_, _, rfl, r, fun b hb => List.mem_append_left _ hb⟩
  | _, _, _, i + 1, _, .no t, e => by
    obtain ⟨v, B, h1, h2, h3⟩ := t.get (i := i) (by simpa using e)
    exact ⟨v, B, by simpa using h1, h2, h3⟩
  | _, _, _, i + 1, _, .val r t, e => by
    obtain ⟨v, B, h1, h2, h3⟩ := t.get (i := i) (by simpa using e)
    exact ⟨v, B, by simpa using h1, h2, fun b hb => List.mem_append_right _ (h3 b hb)⟩
/-- a name's value taken out: what it owns, what the others own -/
theorem EnvRel.out : ∀ {σ : Sl} {ρ : Env} {A : List Addr} {i : Nat}, EnvRel G P H σ ρ A → i < ρ.length → ∃ B C, (A.Perm (B ++ C)) ∧ EnvRel G P H σ (ρ.set i none) C ∧
    ((∃ d v, ρ[i]? = some (some d) ∧ σ[i]? = some (some v) ∧ Rel G P H v d B) ∨ (ρ[i]? = some none ∧ B = []))
  | _, _, _, i, .nil, h => by simp at h
  | _, _, _, 0, .no t, h => ⟨[], _, .refl _, .no t, .inr ⟨rfl, rfl⟩⟩
  | _, _, _, 0, .val r t, h => ⟨_, _, .refl _, .no t, .inl ⟨_, _, rfl, rfl, r⟩⟩
  | _, _, _, i + 1, .no t, h => by
    obtain ⟨B, C, p, e, q⟩ := t.out (i := i) (by simpa using h)
    exact ⟨B, C, p, .no e, by simpa using q⟩
  | _, _, _, i + 1, .val (A := A1) (B := B1) r t, h => by
    obtain ⟨B, C, p, e, q⟩ := t.out (i := i) (by simpa using h)
    refine ⟨B, A1 ++ C, ?_, .val r e, by simpa using q⟩
    refine (p.append_left A1).trans ?_
    rw [← List.append_assoc, ← List.append_assoc]
    exact List.Perm.append_right C List.perm_append_comm
/-- .. and put in -/
theorem EnvRel.put {v : V} {d : D} {B : List Addr} (r : Rel G P H v d B) : ∀ {σ : Sl} {ρ : Env} {C : List Addr} {i : Nat}, EnvRel G P H σ ρ C → i < ρ.length → ρ[i]? = some none → ∃ A, A.Perm (B ++ C) ∧ EnvRel G P H (σ.set i (some v)) (ρ.set i (some d)) A
  | _, _, _, i, .nil, h, _ => by simp at h
  | _, _, _, 0, .no t, h, _ => ⟨_, .refl _, .val r t⟩
  | _, _, _, 0, .val _ t, h, e => by simp at e
  | _, _, _, i + 1, .no t, h, e => by
    obtain ⟨A, p, q⟩ := t.put (i := i) r (by simpa using h) (by simpa using e)
    exact ⟨A, p, .no q⟩
  | _, _, _, i + 1, .val (A := A1) r1 t, h, e => by
    obtain ⟨A, p, q⟩ := t.put (i := i) r (by simpa using h) (by simpa using e)
    refine ⟨A1 ++ A, ?_, .val r1 q⟩
    refine (p.append_left A1).trans ?_
    rw [← List.append_assoc, ← List.append_assoc]
    exact List.Perm.append_right _ List.perm_append_comm
theorem EnvRel.set_same : ∀ {σ : Sl} {i : Nat} {v : V}, σ[i]? = some (some v) → σ.set i (some v) = σ
  | [], _, _, h => by simp at h
  | s :: σ, 0, v, h => by simp at h; subst h; rfl
  | s :: σ, i + 1, v, h => by
    show s :: σ.set i (some v) = s :: σ
    rw [EnvRel.set_same (by simpa using h)]
/-- some slots forgotten -/
theorem EnvRel.drop : ∀ {σ : Sl} {ρ : Env} {A : List Addr} {i : Nat}, EnvRel G P H σ ρ A → ∃ C, (∀ b ∈ C, b ∈ A) ∧ (A.Nodup → C.Nodup) ∧ EnvRel G P H σ (ρ.set i none) C := fun {σ ρ A i} e => by
  by_cases h : i < ρ.length
  · obtain ⟨B, C, p, q, _⟩ := e.out h
    exact ⟨C, fun b hb => p.symm.subset (List.mem_append_right _ hb), fun n => ((p.nodup_iff.mp n).sublist (List.sublist_append_right _ _)), q⟩
  · refine ⟨A, fun _ h => h, fun n => n, ?_⟩
    rw [List.set_eq_of_length_le (by omega)]
    exact e
/-- a slot of σ that ρ does not speak of -/
theorem EnvRel.anyAt {s : Option V} : ∀ {σ : Sl} {ρ : Env} {A : List Addr} {i : Nat}, EnvRel G P H σ ρ A → ρ[i]? = some none → EnvRel G P H (σ.set i s) ρ A
  | _, _, _, i, .nil, h => by simp at h
  | _, _, _, 0, .no t, _ => .no t
  | _, _, _, 0, .val _ _, h => by simp at h
  | _, _, _, i + 1, .no t, h => .no (t.anyAt (by simpa using h))
  | _, _, _, i + 1, .val r t, h => .val r (t.anyAt (by simpa using h))
end

/-- the state: what is known of the names, nothing owned twice -/
structure StRel (G : Gd) (P H : Hp) (σ : Sl) (ρ : Env) (A : List Addr) : Prop where
  und : Under P H
  env : EnvRel G P H σ ρ A
  nd : A.Nodup
  off : ∀ b ∈ A, P b = none
  mks : Marks G P
theorem StRel.ext {G : Gd} {P H P' H' : Hp} {σ : Sl} {ρ : Env} {A : List Addr} (s : StRel G P H σ ρ A) (e : Ext P H P' H' []) : StRel G P' H' σ ρ A :=
  ⟨e.und, s.env.ext e s.off, s.nd, (e.own s.env.at s.off).2, s.mks.mono e.same⟩
end RL

/-! RL, expressions: what an expression means, and that the text does it. -/
namespace RL
open PySem PySem.Spec PyProof.Rows L2

abbrev gd (X : Cx) : Gd := ⟨X.K, X.mg⟩
inductive Res (α : Type) where
  | ok (a : α) | exc (x : D) | bad
def Res.bind {α β : Type} (r : Res α) (f : α → Res β) : Res β := match r with
  | .ok a => f a
  | .exc x => .exc x
  | .bad => .bad
def opt {α : Type} : Option α → Res α
  | some a => .ok a
  | none => .bad
/-- an exception of a class of the module's -/
def XRel (G : Gd) (P : Hp) (cls : Value) (dx : Option Addr) (x : D) : Prop := ∃ c ns ds C, x = .exn c ns ds ∧ G.mg c = some (.ref C) ∧ cls = .ref C ∧ XF P dx ns ds
def Fresh (P' H : Hp) (B : List Addr) : Prop := B.Nodup ∧ ∀ b ∈ B, H b = none ∧ P' b = none
theorem Fresh.nil {P' H : Hp} : Fresh P' H [] := ⟨List.nodup_nil, fun b h => by simp at h⟩
def Post (G : Gd) (P H : Hp) (Q : VK) (d : D) : Prop := ∀ v P' H' B, Ext P H P' H' [] → Rel G P' H' v d B → Fresh P' H B → Q v H'
def PostB (G : Gd) (P H : Hp) (Q : VK) (d : D) : Prop := ∀ v P' H' B, Ext P H P' H' [] → Rel G P' H' v d B → (∀ b ∈ B, P' b = none) → Q v H'
def PostX (G : Gd) (P H : Hp) (W : WX) (σ : Sl) (x : D) : Prop := ∀ cls dx P' H', Ext P H P' H' [] → XRel G P' cls dx x → W cls dx σ H'
/-- the reading of an expression with the meaning S -/
def tE (G : Gd) (W : WX) (S : Env → Res D) : TE := fun σ H Q => ∃ P ρ A, StRel G P H σ ρ A ∧ match S ρ with
  | .ok d => Post G P H Q d
  | .exc x => PostX G P H W σ x
  | .bad => False
/-- .. whose value may be owned by a name -/
def tBo (G : Gd) (W : WX) (S : Env → Res D) : TE := fun σ H Q => ∃ P ρ A, StRel G P H σ ρ A ∧ match S ρ with
  | .ok d => PostB G P H Q d
  | .exc x => PostX G P H W σ x
  | .bad => False
/-- .. of a test -/
def tT (G : Gd) (W : WX) (S : Env → Res Bool) : TT := fun σ H Q => ∃ P ρ A, StRel G P H σ ρ A ∧ match S ρ with
  | .ok b => ∀ P' H', Ext P H P' H' [] → Q b H'
  | .exc x => PostX G P H W σ x
  | .bad => False
def PostL (G : Gd) (P H : Hp) (Q : List V → Hp → Prop) (ds : List D) : Prop := ∀ vs P' H' B, Ext P H P' H' [] → RelL G P' H' vs ds B → Fresh P' H B → Q vs H'
def PostLB (G : Gd) (P H : Hp) (Q : List V → Hp → Prop) (ds : List D) : Prop := ∀ vs P' H' B, Ext P H P' H' [] → RelL G P' H' vs ds B → (∀ b ∈ B, P' b = none) → Q vs H'
/-- .. of arguments -/
def tL (G : Gd) (W : WX) (S : Env → Res (List D)) : TA := fun σ H Q => ∃ P ρ A, StRel G P H σ ρ A ∧ match S ρ with
  | .ok ds => PostL G P H Q ds
  | .exc x => PostX G P H W σ x
  | .bad => False
def tLB (G : Gd) (W : WX) (S : Env → Res (List D)) : TA := fun σ H Q => ∃ P ρ A, StRel G P H σ ρ A ∧ match S ρ with
  | .ok ds => PostLB G P H Q ds
  | .exc x => PostX G P H W σ x
  | .bad => False
structure EOk (X : Cx) (W : WX) (e : Expr) (S : Env → Res D) : Prop where pe : PE X e (tE (gd X) W S)
structure BOk (X : Cx) (W : WX) (e : Expr) (S : Env → Res D) : Prop where pe : PE X e (tBo (gd X) W S)
structure TOk (X : Cx) (W : WX) (e : Expr) (S : Env → Res Bool) : Prop where pt : PT X e (tT (gd X) W S)
structure AOk (X : Cx) (W : WX) (es : List Expr) (S : Env → Res (List D)) : Prop where pa : PA X es (tL (gd X) W S)
structure ABOk (X : Cx) (W : WX) (es : List Expr) (S : Env → Res (List D)) : Prop where pa : PA X es (tLB (gd X) W S)

theorem PE.imp {X : Cx} {e : Expr} {t t' : TE} (h : PE X e t) (f : ∀ σ H Q, t' σ H Q → t σ H Q) : PE X e t' := ⟨fun pins s σ H Q I q => h.run pins s σ H Q I (f σ H Q q)⟩
theorem PT.imp {X : Cx} {e : Expr} {t t' : TT} (h : PT X e t) (f : ∀ σ H Q, t' σ H Q → t σ H Q) : PT X e t' := ⟨fun pins s σ H Q I q => h.run pins s σ H Q I (f σ H Q q)⟩
theorem PA.imp {X : Cx} {e : List Expr} {t t' : TA} (h : PA X e t) (f : ∀ σ H Q, t' σ H Q → t σ H Q) : PA X e t' := ⟨fun pos pins s σ H Q I q => h.run pos pins s σ H Q I (f σ H Q q)⟩
theorem PS.imp {X : Cx} {e : Stmt} {t t' : TS} (h : PS X e t) (f : ∀ D σ H, t' D σ H → t D σ H) : PS X e t' := ⟨fun pins s σ H D I q => h.run pins s σ H D I (f D σ H q)⟩
theorem PSs.imp {X : Cx} {e : List Stmt} {t t' : TS} (h : PSs X e t) (f : ∀ D σ H, t' D σ H → t D σ H) : PSs X e t' := ⟨fun pins s σ H D I q => h.run pins s σ H D I (f D σ H q)⟩
theorem PE.or {X : Cx} {e : Expr} {t t' : TE} (h : PE X e t) (h' : PE X e t') : PE X e (fun σ H Q => t σ H Q ∨ t' σ H Q) := ⟨fun pins s σ H Q I q => q.elim (h.run pins s σ H Q I) (h'.run pins s σ H Q I)⟩

section
variable {G : Gd} {P P1 H H1 : Hp} {W : WX} {σ : Sl}
theorem Post.ext {Q : VK} {d : D} (h : Post G P H Q d) (u : Under P H) (e : Ext P H P1 H1 []) : Post G P1 H1 Q d := fun v P' H' B e' r f => h v P' H' B (e.trans u e') r ⟨f.1, fun b hb => ⟨e.free u (f.2 b hb).1, (f.2 b hb).2⟩⟩
theorem PostB.ext {Q : VK} {d : D} (h : PostB G P H Q d) (u : Under P H) (e : Ext P H P1 H1 []) : PostB G P1 H1 Q d := fun v P' H' B e' r f => h v P' H' B (e.trans u e') r f
theorem PostB.post {Q : VK} {d : D} (h : PostB G P H Q d) : Post G P H Q d := fun v P' H' B e r f => h v P' H' B e r fun b hb => (f.2 b hb).2
theorem PostX.ext {x : D} (h : PostX G P H W σ x) (u : Under P H) (e : Ext P H P1 H1 []) : PostX G P1 H1 W σ x := fun cls dx P' H' e' r => h cls dx P' H' (e.trans u e') r
end

section
variable {X : Cx} {W : WX} {e a b : Expr} {pos : Pos} {Sa Sb : Env → Res D}
theorem EOk.bo (h : EOk X W e Sa) : BOk X W e Sa := ⟨PE.imp h.pe fun σ H Q ⟨P, ρ, A, st, q⟩ => ⟨P, ρ, A, st, by
  cases hs : Sa ρ with
  | ok d => rw [hs] at q; exact PostB.post q
  | exc x => rw [hs] at q; exact q
  | bad => rw [hs] at q; exact q⟩⟩
/-- nothing owned in it: a value of its own -/
def sCl (S : Env → Res D) : Env → Res D := fun ρ => (S ρ).bind fun d => if d.clean = true then .ok d else .bad
theorem BOk.eo (h : BOk X W e Sa) : EOk X W e (sCl Sa) := ⟨PE.imp h.pe fun σ H Q ⟨P, ρ, A, st, q⟩ => ⟨P, ρ, A, st, by
  unfold sCl at q
  cases hs : Sa ρ with
  | ok d =>
    simp only [hs, Res.bind] at q
    by_cases hc : d.clean = true
    · rw [if_pos hc] at q
      exact fun v P' H' B e r f => q v P' H' B e r (by rw [r.clean hc]; exact Fresh.nil)
    · rw [if_neg hc] at q; exact q.elim
  | exc x => simp only [hs, Res.bind] at q; exact q
  | bad => simp only [hs, Res.bind] at q⟩⟩
theorem EOk.to {S S' : Env → Res D} (h : EOk X W e S) (q : S = S') : EOk X W e S' := q ▸ h

/-! ### names, constants -/
def sVarB (i : Nat) : Env → Res D := fun ρ => match ρ[i]? with
  | some (some d) => .ok d
  | _ => .bad
def sVar (i : Nat) : Env → Res D := sCl (sVarB i)
theorem b_var (i : Nat) {x : Str} {p : Pos} (hN : X.N[i]? = some x := by rfl) (hv : Vis X.env.scope x := by first | exact Or.inl rfl | exact Or.inr (Or.inl rfl) | exact Or.inr (Or.inr rfl)) (hd : (x == ("__debug__" : Str)) = false := by decide)
    (hcd : (x == ("__classdict__" : Str)) = false := by decide) : BOk X W (.Name x p) (sVarB i) := ⟨PE.imp (pe_var hN hv hd hcd) fun σ H Q ⟨P, ρ, A, st, q⟩ => by
  unfold sVarB at q
  split at q
  · rename_i d hs
    split at hs
    · cases hs
      rename_i d' hd'
      obtain ⟨v, B, h1, h2, h3⟩ := st.env.get hd'
      exact ⟨v, h1, q v P H B (Ext.refl st.und) h2 fun b hb => st.off b (h3 b hb)⟩
    · cases hs
  · rename_i hs
    split at hs <;> cases hs
  · exact q.elim⟩
theorem e_var (i : Nat) {x : Str} {p : Pos} (hN : X.N[i]? = some x := by rfl) (hv : Vis X.env.scope x := by first | exact Or.inl rfl | exact Or.inr (Or.inl rfl) | exact Or.inr (Or.inr rfl)) (hd : (x == ("__debug__" : Str)) = false := by decide)
    (hcd : (x == ("__classdict__" : Str)) = false := by decide) : EOk X W (.Name x p) (sVar i) := (b_var i hN hv hd hcd).eo
def sC (d : D) : Env → Res D := fun _ => .ok d
/-- a value that is the same everywhere -/
theorem e_val {v : V} {d : D} (h : PE X e (tC v)) (r : ∀ P H, Rel (gd X) P H v d []) : EOk X W e (sC d) := ⟨PE.imp h fun σ H Q ⟨P, ρ, A, st, q⟩ => q v P H [] (Ext.refl st.und) (r P H) Fresh.nil⟩
theorem e_int {i : Int} {j : Nat} {p : Pos} : EOk X W (.Constant (.int i) j p) (sC (.int i)) := e_val pe_int fun _ _ => .int i
theorem e_bl {i : Bool} {j : Nat} {p : Pos} : EOk X W (.Constant (.bool i) j p) (sC (.bl i)) := e_val pe_bl fun _ _ => .bl i
theorem e_non {j : Nat} {p : Pos} : EOk X W (.Constant .none j p) (sC .non) := e_val pe_non fun _ _ => .non
theorem e_str {i : Str} {j : Nat} {p : Pos} : EOk X W (.Constant (.str i) j p) (sC (.str i)) := e_val pe_str fun _ _ => .str i

/-! ### operators by their rule -/
/-- what an operator's rule asks, by the meaning f -/
def rD (G : Gd) (f : D → D → Option D) : R2 := fun x y H Q => ∃ P dx dy Bx By, Under P H ∧ Rel G P H x dx Bx ∧ Rel G P H y dy By ∧ (∀ b ∈ Bx, P b = none) ∧ (∀ b ∈ By, P b = none) ∧ match f dx dy with
  | some d => Post G P H Q d
  | none => False
def s2 (f : D → D → Option D) (Sa Sb : Env → Res D) : Env → Res D := fun ρ => (Sa ρ).bind fun x => (Sb ρ).bind fun y => opt (f x y)
theorem two {f : D → D → Option D} {r : R2} (hr : ∀ x y H Q, rD (gd X) f x y H Q → r x y H Q) {σ : Sl} {H : Hp} {Q : VK} (h : tE (gd X) W (s2 f Sa Sb) σ H Q) : tOp r (tBo (gd X) W Sa) (tBo (gd X) W Sb) σ H Q := by
  obtain ⟨P, ρ, A, st, h⟩ := h
  refine ⟨P, ρ, A, st, ?_⟩
  unfold s2 at h
  cases ha : Sa ρ with
  | bad => simp only [ha, Res.bind] at h
  | exc x => simp only [ha, Res.bind] at h; exact h
  | ok dx =>
    simp only [ha, Res.bind] at h
    intro v P1 H1 B1 e1 r1 o1
    refine ⟨P1, ρ, A, st.ext e1, ?_⟩
    cases hb : Sb ρ with
    | bad => simp only [hb] at h
    | exc x => simp only [hb] at h; exact PostX.ext h st.und e1
    | ok dy =>
      simp only [hb] at h
      intro v2 P2 H2 B2 e2 r2 o2
      refine hr _ _ _ _ ⟨P2, dx, dy, B1, B2, e2.und, r1.ext e2 o1, r2, (e2.own r1.at o1).2, o2, ?_⟩
      cases hf : f dx dy with
      | none => simp only [hf, opt] at h
      | some d => simp only [hf, opt] at h; exact Post.ext h st.und (e1.trans st.und e2)
theorem e_op {op : Operator} {f : D → D → Option D} (ho : OpR X (binaryOp op) (rD (gd X) f)) (ha : BOk X W a Sa) (hb : BOk X W b Sb) : EOk X W (.BinOp a op b pos) (s2 f Sa Sb) :=
  ⟨PE.imp (pe_op ho ha.pe hb.pe) fun _ _ _ => two fun _ _ _ _ h => h⟩
theorem e_cmp {op : CmpOp} {f : D → D → Option D} (ho : OpR X (compareOp op) (rD (gd X) f)) (ha : BOk X W a Sa) (hb : BOk X W b Sb) (hm : behindInMarks op b = false := by first | exact nobehind _ (by decide) (by decide) | rfl) : EOk X W (.Compare a [op] [b] pos) (s2 f Sa Sb) :=
  ⟨PE.imp (pe_cmpR ho ha.pe hb.pe hm) fun _ _ _ => two fun _ _ _ _ h => h⟩
def asB : D → Res Bool
  | .bl b => .ok b
  | _ => .bad
def sTest (S : Env → Res D) : Env → Res Bool := fun ρ => (S ρ).bind asB
theorem test_of {S : Env → Res D} {σ : Sl} {H : Hp} {Q : Bool → Hp → Prop} (h : tT (gd X) W (sTest S) σ H Q) : tE (gd X) W S σ H fun x H' => ∃ k, x = .bl k ∧ Q k H' := by
  obtain ⟨P, ρ, A, st, h⟩ := h
  refine ⟨P, ρ, A, st, ?_⟩
  unfold sTest at h
  cases hs : S ρ with
  | bad => simp only [hs, Res.bind] at h
  | exc x => simp only [hs, Res.bind] at h; exact h
  | ok d =>
    simp only [hs, Res.bind] at h
    intro v P' H' B e r f
    cases d with
    | bl k => cases r; exact ⟨k, rfl, h P' H' e⟩
    | _ => simp only [asB] at h
theorem t_cmp {op : CmpOp} {f : D → D → Option D} (ho : OpR X (compareOp op) (rD (gd X) f)) (ha : BOk X W a Sa) (hb : BOk X W b Sb) (hm : behindInMarks op b = false := by first | exact nobehind _ (by decide) (by decide) | rfl) : TOk X W (.Compare a [op] [b] pos) (sTest (s2 f Sa Sb)) :=
  ⟨PT.imp (pt_cmpR ho ha.pe hb.pe hm) fun _ _ _ h => two (fun _ _ _ _ h => h) (test_of h)⟩
/-- a name, a call, an item as a test: a bool -/
theorem t_val {S : Env → Res D} (h : EOk X W e S) (he : ∀ whole, isTrue e X.env whole = (do let v ← whole; standAt e.pos; holding [v] (truthy v)) := by intro _; rfl) : TOk X W e (sTest S) :=
  ⟨PT.imp (pt_val h.pe he) fun _ _ _ h => test_of h⟩
def sNot (S : Env → Res Bool) : Env → Res Bool := fun ρ => (S ρ).bind fun b => .ok (!b)
theorem t_not {S : Env → Res Bool} (h : TOk X W a S) : TOk X W (.UnaryOp .Not a pos) (sNot S) := ⟨PT.imp (pt_not h.pt) fun σ H Q ⟨P, ρ, A, st, q⟩ => ⟨P, ρ, A, st, by
  unfold sNot at q
  cases hs : S ρ <;> simp only [hs, Res.bind] at q <;> exact q⟩⟩
def sAndT (S T : Env → Res Bool) : Env → Res Bool := fun ρ => (S ρ).bind fun b => if b = true then T ρ else .ok false
def sOrT (S T : Env → Res Bool) : Env → Res Bool := fun ρ => (S ρ).bind fun b => if b = true then .ok true else T ρ
/-- tests in a chain of and, or -/
structure WOk (X : Cx) (W : WX) (e : Expr) (S : Env → Res Bool) : Prop where pw : PW X e (tT (gd X) W S)
theorem PW.imp {X : Cx} {e : Expr} {t t' : TT} (h : PW X e t) (f : ∀ σ H Q, t' σ H Q → t σ H Q) : PW X e t' := ⟨fun wh pins s σ H Q I q => h.run wh pins s σ H Q I (f σ H Q q)⟩
theorem WOk.t {S : Env → Res Bool} (h : WOk X W e S) : TOk X W e S := ⟨h.pw.pt⟩
theorem w_and1 {S : Env → Res Bool} (h : TOk X W a S) : WOk X W (.BoolOp .And [a] pos) S := ⟨pw_and1 h.pt⟩
theorem w_or1 {S : Env → Res Bool} (h : TOk X W a S) : WOk X W (.BoolOp .Or [a] pos) S := ⟨pw_or1 h.pt⟩
theorem w_and {S T : Env → Res Bool} {r : List Expr} (h : TOk X W a S) (h' : WOk X W (.BoolOp .And (b :: r) pos) T) : WOk X W (.BoolOp .And (a :: b :: r) pos) (sAndT S T) := ⟨PW.imp (pw_and h.pt h'.pw) fun σ H Q ⟨P, ρ, A, st, q⟩ => ⟨P, ρ, A, st, by
  unfold sAndT at q
  cases hs : S ρ with
  | bad => simp only [hs, Res.bind] at q
  | exc x => simp only [hs, Res.bind] at q; exact q
  | ok k =>
    simp only [hs, Res.bind] at q
    intro P1 H1 e1
    cases k with
    | false => simp only [Bool.false_eq_true, if_false] at q ⊢; exact q P1 H1 e1
    | true =>
      simp only [if_true] at q ⊢
      refine ⟨P1, ρ, A, st.ext e1, ?_⟩
      cases ht : T ρ with
      | bad => simp only [ht] at q
      | exc x => simp only [ht] at q; exact PostX.ext q st.und e1
      | ok k' => simp only [ht] at q; exact fun P2 H2 e2 => q P2 H2 (e1.trans st.und e2)⟩⟩
theorem w_or {S T : Env → Res Bool} {r : List Expr} (h : TOk X W a S) (h' : WOk X W (.BoolOp .Or (b :: r) pos) T) : WOk X W (.BoolOp .Or (a :: b :: r) pos) (sOrT S T) := ⟨PW.imp (pw_or h.pt h'.pw) fun σ H Q ⟨P, ρ, A, st, q⟩ => ⟨P, ρ, A, st, by
  unfold sOrT at q
  cases hs : S ρ with
  | bad => simp only [hs, Res.bind] at q
  | exc x => simp only [hs, Res.bind] at q; exact q
  | ok k =>
    simp only [hs, Res.bind] at q
    intro P1 H1 e1
    cases k with
    | true => simp only [if_true] at q ⊢; exact q P1 H1 e1
    | false =>
      simp only [Bool.false_eq_true, if_false] at q ⊢
      refine ⟨P1, ρ, A, st.ext e1, ?_⟩
      cases ht : T ρ with
      | bad => simp only [ht] at q
      | exc x => simp only [ht] at q; exact PostX.ext q st.und e1
      | ok k' => simp only [ht] at q; exact fun P2 H2 e2 => q P2 H2 (e1.trans st.und e2)⟩⟩

/-- a if c else b -/
def sIf (C : Env → Res Bool) (Sa Sb : Env → Res D) : Env → Res D := fun ρ => (C ρ).bind fun k => if k = true then Sa ρ else Sb ρ
theorem e_if {c : Expr} {C : Env → Res Bool} (hc : TOk X W c C) (ha : EOk X W a Sa) (hb : EOk X W b Sb) : EOk X W (.IfExp c a b pos) (sIf C Sa Sb) := ⟨PE.imp (pe_ifExp hc.pt ha.pe hb.pe) fun σ H Q ⟨P, ρ, A, st, q⟩ => ⟨P, ρ, A, st, by
  unfold sIf at q
  cases hs : C ρ with
  | bad => simp only [hs, Res.bind] at q
  | exc x => simp only [hs, Res.bind] at q; exact q
  | ok k =>
    simp only [hs, Res.bind] at q
    intro P1 H1 e1
    cases k with
    | true =>
      simp only [if_true] at q ⊢
      refine ⟨P1, ρ, A, st.ext e1, ?_⟩
      cases ht : Sa ρ with
      | bad => simp only [ht] at q
      | exc x => simp only [ht] at q; exact PostX.ext q st.und e1
      | ok k' => simp only [ht] at q; exact Post.ext q st.und e1
    | false =>
      simp only [Bool.false_eq_true, if_false] at q ⊢
      refine ⟨P1, ρ, A, st.ext e1, ?_⟩
      cases ht : Sb ρ with
      | bad => simp only [ht] at q
      | exc x => simp only [ht] at q; exact PostX.ext q st.und e1
      | ok k' => simp only [ht] at q; exact Post.ext q st.und e1⟩⟩
/-- not, and, or as values: bools -/
def sB (S : Env → Res Bool) : Env → Res D := fun ρ => (S ρ).bind fun b => .ok (.bl b)
theorem val_of {S : Env → Res Bool} {σ : Sl} {H : Hp} {Q : VK} (h : tE (gd X) W (sB S) σ H Q) : tT (gd X) W S σ H fun k H' => Q (.bl k) H' := by
  obtain ⟨P, ρ, A, st, h⟩ := h
  refine ⟨P, ρ, A, st, ?_⟩
  unfold sB at h
  cases hs : S ρ with
  | bad => simp only [hs, Res.bind] at h
  | exc x => simp only [hs, Res.bind] at h; exact h
  | ok d => simp only [hs, Res.bind] at h; exact fun P' H' e => h _ P' H' [] e (.bl d) Fresh.nil
def sNotV (S : Env → Res D) : Env → Res D := sB (sNot (sTest S))
theorem e_not {S : Env → Res D} (h : EOk X W a S) : EOk X W (.UnaryOp .Not a pos) (sNotV S) := ⟨PE.imp (pe_not h.pe) fun σ H Q q => by
  have q1 := val_of q
  obtain ⟨P, ρ, A, st, q1⟩ := q1
  have q2 : tT (gd X) W (sTest S) σ H fun k H' => Q (.bl (!k)) H' := ⟨P, ρ, A, st, by
    unfold sNot at q1
    cases hs : sTest S ρ <;> simp only [hs, Res.bind] at q1 <;> exact q1⟩
  exact test_of q2⟩
def sAnd (Sa Sb : Env → Res D) : Env → Res D := fun ρ => (Sa ρ).bind fun x => (asB x).bind fun k => if k = true then Sb ρ else .ok (.bl false)
def sOr (Sa Sb : Env → Res D) : Env → Res D := fun ρ => (Sa ρ).bind fun x => (asB x).bind fun k => if k = true then .ok (.bl true) else Sb ρ
theorem e_one {op : BoolOp} (h : EOk X W a Sa) : EOk X W (.BoolOp op [a] pos) Sa := ⟨pe_one h.pe⟩
theorem e_and {r : List Expr} (ha : EOk X W a Sa) (hb : EOk X W (.BoolOp .And (b :: r) pos) Sb) : EOk X W (.BoolOp .And (a :: b :: r) pos) (sAnd Sa Sb) := ⟨PE.imp (pe_and ha.pe hb.pe) fun σ H Q ⟨P, ρ, A, st, q⟩ => ⟨P, ρ, A, st, by
  unfold sAnd at q
  cases hs : Sa ρ with
  | bad => simp only [hs, Res.bind] at q
  | exc x => simp only [hs, Res.bind] at q; exact q
  | ok d =>
    simp only [hs, Res.bind] at q
    intro v P1 H1 B e1 r f
    cases d with
    | bl k =>
      cases r
      refine ⟨k, rfl, ?_⟩
      cases k with
      | false => simp only [asB, Bool.false_eq_true, if_false] at q ⊢; exact q _ P1 H1 [] e1 (.bl false) Fresh.nil
      | true =>
        simp only [asB, if_true] at q ⊢
        refine ⟨P1, ρ, A, st.ext e1, ?_⟩
        cases ht : Sb ρ with
        | bad => simp only [ht] at q
        | exc x => simp only [ht] at q; exact PostX.ext q st.und e1
        | ok k' => simp only [ht] at q; exact Post.ext q st.und e1
    | _ => simp only [asB] at q⟩⟩
theorem e_or {r : List Expr} (ha : EOk X W a Sa) (hb : EOk X W (.BoolOp .Or (b :: r) pos) Sb) : EOk X W (.BoolOp .Or (a :: b :: r) pos) (sOr Sa Sb) := ⟨PE.imp (pe_or ha.pe hb.pe) fun σ H Q ⟨P, ρ, A, st, q⟩ => ⟨P, ρ, A, st, by
  unfold sOr at q
  cases hs : Sa ρ with
  | bad => simp only [hs, Res.bind] at q
  | exc x => simp only [hs, Res.bind] at q; exact q
  | ok d =>
    simp only [hs, Res.bind] at q
    intro v P1 H1 B e1 r f
    cases d with
    | bl k =>
      cases r
      refine ⟨k, rfl, ?_⟩
      cases k with
      | true => simp only [asB, if_true] at q ⊢; exact q _ P1 H1 [] e1 (.bl true) Fresh.nil
      | false =>
        simp only [asB, Bool.false_eq_true, if_false] at q ⊢
        refine ⟨P1, ρ, A, st.ext e1, ?_⟩
        cases ht : Sb ρ with
        | bad => simp only [ht] at q
        | exc x => simp only [ht] at q; exact PostX.ext q st.und e1
        | ok k' => simp only [ht] at q; exact Post.ext q st.und e1
    | _ => simp only [asB] at q⟩⟩
/-! ### arguments -/
def sNil : Env → Res (List D) := fun _ => .ok []
def sCons (S : Env → Res D) (T : Env → Res (List D)) : Env → Res (List D) := fun ρ => (S ρ).bind fun d => (T ρ).bind fun ds => .ok (d :: ds)
theorem a_nil : AOk X W [] sNil := ⟨PA.imp pa_nil fun σ H Q ⟨P, ρ, A, st, q⟩ => q [] P H [] (Ext.refl st.und) .nil Fresh.nil⟩
theorem ab_nil : ABOk X W [] sNil := ⟨PA.imp pa_nil fun σ H Q ⟨P, ρ, A, st, q⟩ => q [] P H [] (Ext.refl st.und) .nil fun b h => by simp at h⟩
theorem a_cons {es : List Expr} {S : Env → Res D} {T : Env → Res (List D)} (h : EOk X W e S) (t : AOk X W es T) (hs : starEach (e :: es) X.env = (false, eval e X.env) :: starEach es X.env := by rfl) : AOk X W (e :: es) (sCons S T) := ⟨PA.imp (pa_cons h.pe t.pa hs) fun σ H Q ⟨P, ρ, A, st, q⟩ => ⟨P, ρ, A, st, by
  unfold sCons at q
  cases hs : S ρ with
  | bad => simp only [hs, Res.bind] at q
  | exc x => simp only [hs, Res.bind] at q; exact q
  | ok d =>
    simp only [hs, Res.bind] at q
    intro v P1 H1 B1 e1 r1 f1
    refine ⟨P1, ρ, A, st.ext e1, ?_⟩
    cases ht : T ρ with
    | bad => simp only [ht] at q
    | exc x => simp only [ht] at q; exact PostX.ext q st.und e1
    | ok ds =>
      simp only [ht] at q
      intro vs P2 H2 B2 e2 r2 f2
      have o1 : ∀ b ∈ B1, P1 b = none := fun b hb => (f1.2 b hb).2
      refine q _ P2 H2 (B1 ++ B2) (e1.trans st.und e2) (.cons (r1.ext e2 o1) r2) ⟨?_, fun b hb => ?_⟩
      · refine List.nodup_append.mpr ⟨f1.1, f2.1, fun x hx y hy z => ?_⟩
        obtain ⟨o, ho⟩ := r1.at x hx
        rw [z, (f2.2 y hy).1] at ho; cases ho
      · rcases List.mem_append.mp hb with hb | hb
        · exact ⟨(f1.2 b hb).1, (e2.own r1.at o1).2 b hb⟩
        · exact ⟨e1.free st.und (f2.2 b hb).1, (f2.2 b hb).2⟩⟩⟩
theorem ab_cons {es : List Expr} {S : Env → Res D} {T : Env → Res (List D)} (h : BOk X W e S) (t : ABOk X W es T) (hs : starEach (e :: es) X.env = (false, eval e X.env) :: starEach es X.env := by rfl) : ABOk X W (e :: es) (sCons S T) := ⟨PA.imp (pa_cons h.pe t.pa hs) fun σ H Q ⟨P, ρ, A, st, q⟩ => ⟨P, ρ, A, st, by
  unfold sCons at q
  cases hs : S ρ with
  | bad => simp only [hs, Res.bind] at q
  | exc x => simp only [hs, Res.bind] at q; exact q
  | ok d =>
    simp only [hs, Res.bind] at q
    intro v P1 H1 B1 e1 r1 o1
    refine ⟨P1, ρ, A, st.ext e1, ?_⟩
    cases ht : T ρ with
    | bad => simp only [ht] at q
    | exc x => simp only [ht] at q; exact PostX.ext q st.und e1
    | ok ds =>
      simp only [ht] at q
      intro vs P2 H2 B2 e2 r2 f2
      refine q _ P2 H2 (B1 ++ B2) (e1.trans st.und e2) (.cons (r1.ext e2 o1) r2) fun b hb => ?_
      rcases List.mem_append.mp hb with hb | hb
      · exact (e2.own r1.at o1).2 b hb
      · exact f2 b hb⟩⟩
end
end RL

/-! RL, operators on data. -/
namespace RL
open PySem PySem.Spec PyProof.Rows L2

/-! ### new objects -/
section
variable {G : Gd} {P H : Hp} {p : Addr} {o : HO}
theorem Under.free (u : Under P H) (h : H p = none) : P p = none := by
  cases q : P p with
  | none => rfl
  | some w =>
    rcases u _ _ q with r | ⟨_, _, _, r⟩ | ⟨_, _, _, r, _⟩
    · rw [h] at r; cases r
    · rw [h] at r; cases r
    · rw [h] at r; cases r
theorem ext_own (u : Under P H) (h : H p = none) : Ext P H P (upd H p o) [] where
  same := Same.refl P
  und := fun a w q => by
    have hp : a ≠ p := fun e => by rw [e, u.free h] at q; cases q
    rw [upd_ne hp]; exact u a w q
  keep := fun b w q _ _ => by rw [upd_ne (ne_of_none q h)]; exact q
  lck := fun b o u q => by rw [upd_ne (ne_of_none q h)]; exact q
  new := fun b w q => .inl q
theorem ext_fix (u : Under P H) (h : H p = none) : Ext P H (upd P p o) (upd H p o) [] where
  same := fun b w q => by rw [upd_ne (ne_of_none q (u.free h))]; exact q
  und := fun a w q => by
    by_cases e : a = p
    · subst e; rw [upd_same] at q ⊢; exact .inl q
    · rw [upd_ne e] at q ⊢
      rcases u a w q with z | z | ⟨q', ps, z1, z2, z3, z4⟩
      · exact .inl z
      · exact .inr (.inl z)
      · refine .inr (.inr ⟨q', ps, z1, z2, z3, fun pos cv hc => ?_⟩)
        obtain ⟨c, e1, e2⟩ := z4 pos cv hc
        exact ⟨c, e1, by rw [upd_ne (ne_of_none e2 (u.free h))]; exact e2⟩
  keep := fun b w q _ _ => by rw [upd_ne (ne_of_none q h)]; exact q
  lck := fun b o u q => by rw [upd_ne (ne_of_none q h)]; exact q
  new := fun b w q => by
    by_cases e : b = p
    · subst e; exact .inr (.inl h)
    · rw [upd_ne e] at q; exact .inl q
theorem post_val {Q : VK} {v : V} {d : D} (u : Under P H) (h : Post G P H Q d) (r : Rel G P H v d []) : Q v H := h v P H [] (Ext.refl u) r Fresh.nil
theorem fresh1 (u : Under P H) (h : H p = none) : Fresh P H [p] := ⟨by simp, fun b hb => by
  have e : b = p := by simpa using hb
  subst e; exact ⟨h, u.free h⟩⟩
theorem post_lst {Q : VK} {ds : List D} {xs : List V} (u : Under P H) (h : Post G P H Q (.lst true ds)) (r : RelL G P H xs ds []) (hp : H p = none) : Q (.ref p) (upd H p (.lst xs)) :=
  h _ _ _ _ (ext_own u hp) (.lstO upd_same (r.mono (Same.refl P) (by simp))) (fresh1 u hp)
theorem post_tup {Q : VK} {ds : List D} {xs : List V} (u : Under P H) (h : Post G P H Q (.tup ds)) (r : RelL G P H xs ds []) (hp : H p = none) : Q (.ref p) (upd H p (.tup xs)) :=
  h _ _ _ _ (ext_fix u hp) (.tup (SqT.of upd_same) (r.mono (ext_fix (o := .tup xs) u hp).same (by simp))) Fresh.nil
theorem post_dct {Q : VK} {ks : List Key} {ds : List D} {xs : List V} (u : Under P H) (h : Post G P H Q (.dct true ks ds)) (hl : ks.length = xs.length) (r : RelL G P H xs ds []) (hp : H p = none) : Q (.ref p) (upd H p (.dK (ks.zip xs))) :=
  h _ _ _ _ (ext_own u hp) (.dctO upd_same hl (r.mono (Same.refl P) (by simp))) (fresh1 u hp)
theorem RelL.append {G : Gd} {P H : Hp} : ∀ {xs ys : List V} {ds es : List D}, RelL G P H xs ds [] → RelL G P H ys es [] → RelL G P H (xs ++ ys) (ds ++ es) []
  | _, _, _, _, r, t => by
    generalize hA : ([] : List Addr) = A at r
    induction r using RelL.rec (motive_1 := fun _ _ _ _ => True) with
    | nil => exact t
    | cons r1 r2 _ ih =>
      have e := List.append_eq_nil_iff.mp hA.symm
      obtain ⟨rfl, rfl⟩ := e
      exact .cons (A := []) (B := []) r1 (ih rfl)
    | _ => trivial
end
section
variable {G : Gd} {P H : Hp}
theorem RelL.nil_of : ∀ {xs : List V} {ds : List D} {A : List Addr}, RelL G P H xs ds A → cleanL ds = true → RelL G P H xs ds [] := fun {xs ds A} r h => by
  have e := r.clean h
  subst e
  exact r
end

/-! ### data as the library's data -/
def keyPy : Key → PyData
  | .inl i => .int i
  | .inr x => .str x
mutual
def D.py : D → PyData
  | .non => .none
  | .bl b => .bool b
  | .int i => .int i
  | .str x => .str x
  | .tup ds => .tuple (pyL ds)
  | .lst _ ds => .list (pyL ds)
  | .dct _ ks ds => .dict ((ks.map keyPy).zip (pyL ds))
  | _ => .none
def pyL : List D → List PyData
  | [] => []
  | d :: ds => d.py :: pyL ds
end
/-- of no greater depth than n; no dicts, no objects; texts of signs -/
def fitN : Nat → D → Bool
  | _, .non => true
  | _, .bl _ => true
  | _, .int _ => true
  | _, .str x => PyData.strOk x
  | n + 1, .tup ds => ds.all (fitN n)
  | n + 1, .lst _ ds => ds.all (fitN n)
  | _, _ => false
theorem pyL_eq : ∀ ds : List D, pyL ds = ds.map D.py
  | [] => rfl
  | d :: ds => by rw [pyL, pyL_eq ds, List.map_cons]
theorem canLayAll_of : ∀ {ds : List PyData}, (∀ d ∈ ds, d.canLay0 = true) → PyData.canLayAll0 ds = true
  | [], _ => rfl
  | d :: ds, h => by
    rw [PyData.canLayAll0, h d List.mem_cons_self, canLayAll_of fun e he => h e (List.mem_cons_of_mem _ he)]
    rfl
theorem depthAll_of {n : Nat} : ∀ {ds : List PyData}, (∀ d ∈ ds, d.depth ≤ n) → PyData.depthAll ds ≤ n
  | [], _ => by simp [PyData.depthAll]
  | d :: ds, h => by
    have h1 := h d List.mem_cons_self
    have h2 := depthAll_of fun e he => h e (List.mem_cons_of_mem d he)
    simp only [PyData.depthAll]
    omega
theorem fitN_ok : ∀ {n : Nat} {d : D}, fitN n d = true → d.py.canLay0 = true ∧ d.py.depth ≤ n + 1
  | n, .non, _ => by simp [D.py, PyData.canLay0, PyData.depth]
  | n, .bl b, _ => by simp [D.py, PyData.canLay0, PyData.depth]
  | n, .int b, _ => by simp [D.py, PyData.canLay0, PyData.depth]
  | n, .str x, h => by
    refine ⟨?_, by simp [D.py, PyData.depth]⟩
    cases n <;> simpa [fitN, D.py, PyData.canLay0] using h
  | 0, .tup ds, h => by simp [fitN] at h
  | n + 1, .tup ds, h => by
    have h' : ∀ d ∈ ds, fitN n d = true := by simpa [fitN] using h
    have q : ∀ d ∈ ds.map D.py, d.canLay0 = true ∧ d.depth ≤ n + 1 := fun d hd => by
      obtain ⟨e, he, rfl⟩ := List.mem_map.mp hd
      exact fitN_ok (h' e he)
    simp only [D.py, pyL_eq, PyData.canLay0, PyData.depth]
    refine ⟨canLayAll_of fun d hd => (q d hd).1, ?_⟩
    have := depthAll_of fun d hd => (q d hd).2
    omega
  | 0, .lst _ ds, h => by simp [fitN] at h
  | n + 1, .lst _ ds, h => by
    have h' : ∀ d ∈ ds, fitN n d = true := by simpa [fitN] using h
    have q : ∀ d ∈ ds.map D.py, d.canLay0 = true ∧ d.depth ≤ n + 1 := fun d hd => by
      obtain ⟨e, he, rfl⟩ := List.mem_map.mp hd
      exact fitN_ok (h' e he)
    simp only [D.py, pyL_eq, PyData.canLay0, PyData.depth]
    refine ⟨canLayAll_of fun d hd => (q d hd).1, ?_⟩
    have := depthAll_of fun d hd => (q d hd).2
    omega
  | 0, .dct _ _ _, h => by simp [fitN] at h
  | n + 1, .dct _ _ _, h => by simp [fitN] at h
  | 0, .obj _ _ _ _, h => by simp [fitN] at h
  | n + 1, .obj _ _ _ _, h => by simp [fitN] at h
  | 0, .exn _ _ _, h => by simp [fitN] at h
  | n + 1, .exn _ _ _, h => by simp [fitN] at h
  | 0, .scr _, h => by simp [fitN] at h
  | n + 1, .scr _, h => by simp [fitN] at h
  | 0, .tux _, h => by simp [fitN] at h
  | n + 1, .tux _, h => by simp [fitN] at h
def D.fit (d : D) : Bool := fitN 60 d
theorem fit_ok {d : D} (h : d.fit = true) : SeqAt.shaped d.py = true := by
  obtain ⟨h1, h2⟩ := fitN_ok h
  unfold SeqAt.shaped
  rw [h1, decide_eq_true (show d.py.depth ≤ 64 by omega)]
  rfl
section
variable {G : Gd} {P H : Hp}
mutual
theorem Rel.dp (u : Under P H) : ∀ {n : Nat} {v : V} {d : D} {A : List Addr}, Rel G P H v d A → fitN n d = true → Dp G.K H v d.py
  | n, _, _, _, .non, _ => by rw [D.py]; exact .non
  | n, _, _, _, .bl b, _ => by rw [D.py]; exact .bl b
  | n, _, _, _, .int b, _ => by rw [D.py]; exact .int b
  | n, _, _, _, .str b, _ => by rw [D.py]; exact .str b
  | 0, _, _, _, .tup q r, h => by simp [fitN] at h
  | n + 1, _, _, _, .tup q r, h => by rw [D.py]; exact .tup (u.seqT q) (RelL.dp (n := n) u r (by simpa [fitN] using h))
  | 0, _, _, _, .lstF q r, h => by simp [fitN] at h
  | n + 1, _, _, _, .lstF q r, h => by rw [D.py]; exact .lst (u.seqL (SqL.of q)) (RelL.dp (n := n) u r (by simpa [fitN] using h))
  | 0, _, _, _, .lstO q r, h => by simp [fitN] at h
  | n + 1, _, _, _, .lstO q r, h => by rw [D.py]; exact .lst (SqL.of q) (RelL.dp (n := n) u r (by simpa [fitN] using h))
  | n, _, _, _, .scr _, h => by cases n <;> simp [fitN] at h
  | n, _, _, _, .tux _ _ _, h => by cases n <;> simp [fitN] at h
  | n, _, _, _, .dctF _ _ _, h => by cases n <;> simp [fitN] at h
  | n, _, _, _, .dctO _ _ _, h => by cases n <;> simp [fitN] at h
  | n, _, _, _, .objF _ _ _ _, h => by cases n <;> simp [fitN] at h
  | n, _, _, _, .objO _ _ _ _, h => by cases n <;> simp [fitN] at h
  | n, _, _, _, .exn _ _ _, h => by cases n <;> simp [fitN] at h
theorem RelL.dp (u : Under P H) : ∀ {n : Nat} {vs : List V} {ds : List D} {A : List Addr}, RelL G P H vs ds A → (∀ d ∈ ds, fitN n d = true) → DpAll G.K H vs (pyL ds)
  | n, _, _, _, .nil, _ => by rw [pyL]; exact .nil
  | n, _, _, _, .cons r t, h => by rw [pyL]; exact .cons (Rel.dp u r (h _ List.mem_cons_self)) (RelL.dp u t fun d hd => h d (List.mem_cons_of_mem _ hd))
end
end

/-! ### the meanings of the operators -/
/-- an int of moderate size -/
def sml (i : Int) : Bool := decide (i.natAbs.log2 < 1900)
def opAdd : D → D → Option D
  | .int i, .int j => some (.int (i + j))
  | .str x, .str y => if x.length + y.length ≤ sizeLine then some (.str (x ++ y)) else none
  | .lst _ xs, .lst _ ys => if cleanL xs = true ∧ cleanL ys = true ∧ xs.length + ys.length ≤ sizeLine then some (.lst true (xs ++ ys)) else none
  | .tup xs, .tup ys => if cleanL xs = true ∧ cleanL ys = true ∧ xs ≠ [] ∧ xs.length + ys.length ≤ sizeLine then some (.tup (xs ++ ys)) else none
  | _, _ => none
def opSub : D → D → Option D
  | .int i, .int j => some (.int (i - j))
  | _, _ => none
def mulOk (i j : Int) : Bool := decide (-(2 ^ 64) < i ∧ i < 2 ^ 64) || decide (-(2 ^ 64) < j ∧ j < 2 ^ 64) || (sml i && sml j)
def opMul : D → D → Option D
  | .int i, .int j => if mulOk i j = true then some (.int (i * j)) else none
  | .lst _ ds, .int k => if cleanL ds = true ∧ -(2 ^ 63) ≤ k ∧ k < 2 ^ 63 ∧ ds.length * k.toNat ≤ sizeLine then some (.lst true (List.replicate k.toNat ds).flatten) else none
  | _, _ => none
def opFdiv : D → D → Option D
  | .int i, .int j => if j ≠ 0 ∧ sml j = true then some (.int (i.fdiv j)) else none
  | _, _ => none
def opMod : D → D → Option D
  | .int i, .int j => if j ≠ 0 then some (.int (i.fmod j)) else none
  | _, _ => none
def opPow : D → D → Option D
  | .int i, .int j => if 0 ≤ j ∧ j ≤ 1000000 ∧ i.natAbs < 2 ^ 64 then some (.int (i ^ j.toNat)) else none
  | _, _ => none
def opLt : D → D → Option D
  | .int i, .int j => some (.bl (decide (i < j)))
  | _, _ => none
def opLe : D → D → Option D
  | .int i, .int j => some (.bl (decide (i ≤ j)))
  | _, _ => none
def opGt : D → D → Option D
  | .int i, .int j => some (.bl (decide (j < i)))
  | _, _ => none
def opGe : D → D → Option D
  | .int i, .int j => some (.bl (decide (j ≤ i)))
  | _, _ => none
def strs? : D → D → Option Bool
  | .str x, .str y => some (decide (x = y))
  | _, _ => none
theorem strs_of {x y : D} {b : Bool} (h : strs? x y = some b) : ∃ a c, x = .str a ∧ y = .str c ∧ b = decide (a = c) := by
  unfold strs? at h
  split at h
  · exact ⟨_, _, rfl, rfl, (Option.some.inj h).symm⟩
  · cases h
def opEq : D → D → Option D := fun x y => match strs? x y with
  | some b => some (.bl b)
  | none => if x.fit = true ∧ y.fit = true then some (.bl (PyData.eqv x.py y.py)) else none
def opNe : D → D → Option D := fun x y => match strs? x y with
  | some b => some (.bl (!b))
  | none => if x.fit = true ∧ y.fit = true then some (.bl (!PyData.eqv x.py y.py)) else none
def isNon : D → Bool
  | .non => true
  | _ => false
def opIs : D → D → Option D
  | d, .non => some (.bl (isNon d))
  | .bl a, .bl b => some (.bl (decide (a = b)))
  | _, _ => none
def opIsNot : D → D → Option D
  | d, .non => some (.bl (!isNon d))
  | .bl a, .bl b => some (.bl (!decide (a = b)))
  | _, _ => none
def scalD : D → Bool
  | .non => true
  | .bl _ => true
  | .int _ => true
  | .str _ => true
  | _ => false
def opIn : D → D → Option D
  | .str x, .str z => if x.cps.size = 1 then some (.bl (decide (x.cps.getD 0 0 ∈ z.cps.toList))) else none
  | d, .lst o ds => if d.fit = true ∧ (D.lst o ds).fit = true then some (.bl (ds.any fun z => PyData.eqv z.py d.py)) else none
  | d, .tup ds => if scalD d = true ∧ ds.all scalD = true then some (.bl (ds.any fun z => PyData.eqv z.py d.py)) else none
  | _, _ => none
def opNotIn : D → D → Option D := fun x y => (opIn x y).bind fun d => match d with
  | .bl b => some (.bl (!b))
  | _ => none

section
variable {X : Cx} {k : Nat}
theorem is_non {G : Gd} {P H : Hp} {v : V} {d : D} {A : List Addr} (r : Rel G P H v d A) : decide (v = .non) = isNon d := by
  cases r <;> simp [isNon]
theorem o_sub : OpR X (binaryOp .Sub) (rD (gd X) opSub) := by
  intro pins s σ H x y v u Q I rx ry ⟨P, dx, dy, Bx, By, un, r1, r2, o1, o2, h⟩
  cases r1 <;> first | exact h.elim | skip
  cases r2 <;> first | exact h.elim | skip
  exact op_sub pins s σ H _ _ _ _ Q I rx ry ⟨_, _, rfl, rfl, post_val un h (.int _)⟩
theorem o_add : OpR X (binaryOp .Add) (rD (gd X) opAdd) := by
  intro pins s σ H x y v u Q I rx ry ⟨P, dx, dy, Bx, By, un, r1, r2, o1, o2, h⟩
  have lst : ∀ {a b : Addr} {xs ys : List V} {ds es : List D} {A B : List Addr}, H a = some (.lst xs) → RelL (gd X) P H xs ds A → H b = some (.lst ys) → RelL (gd X) P H ys es B → RelV (.ref a) v → RelV (.ref b) u →
      (match (if cleanL ds = true ∧ cleanL es = true ∧ ds.length + es.length ≤ sizeLine then some (D.lst true (ds ++ es)) else none) with | some d => Post (gd X) P H Q d | none => False) → wpAny (model X.prog X.w) X.A (binaryOp .Add v u) (EP X pins σ Q) X.xe s := by
    intro a b xs ys ds es A B e1 q1 e2 q2 rx ry h
    split at h
    · rename_i d hd
      split at hd
      · rename_i c
        cases hd
        exact op_cat pins s σ H _ _ _ _ Q I rx ry ⟨a, b, xs, ys, rfl, rfl, e1, e2, by rw [q1.length, q2.length]; exact c.2.2, fun p hp => post_lst un h ((q1.nil_of c.1).append (q2.nil_of c.2.1)) hp⟩
      · cases hd
    · exact h.elim
  have fl : ∀ {a : Addr} {xs : List V}, P a = some (.lst xs) → H a = some (.lst xs) := fun {a xs} e => by
    rcases un _ _ e with z | ⟨_, _, z, _⟩ | ⟨_, _, z, _⟩
    · exact z
    · cases z
    · cases z
  cases r1 with
  | int i =>
    cases r2 <;> first | exact h.elim | skip
    exact op_add pins s σ H _ _ _ _ Q I rx ry ⟨_, _, rfl, rfl, post_val un h (.int _)⟩
  | str i =>
    cases r2 <;> first | exact h.elim | skip
    rename_i j
    simp only [opAdd] at h
    split at h
    · rename_i d hd
      split at hd
      · rename_i c
        cases hd
        exact op_add_str pins s σ H _ _ _ _ Q I rx ry ⟨_, _, rfl, rfl, c, post_val un h (.str _)⟩
      · cases hd
    · exact h.elim
  | lstF e1 q1 =>
    cases r2 <;> first | exact h.elim | skip
    · rename_i e2 q2; exact lst (fl e1) q1 (fl e2) q2 rx ry h
    · rename_i e2 q2; exact lst (fl e1) q1 e2 q2 rx ry h
  | lstO e1 q1 =>
    cases r2 <;> first | exact h.elim | skip
    · rename_i e2 q2; exact lst e1 q1 (fl e2) q2 rx ry h
    · rename_i e2 q2; exact lst e1 q1 e2 q2 rx ry h
  | tup e1 q1 =>
    cases r2 <;> first | exact h.elim | skip
    rename_i e2 q2
    simp only [opAdd] at h
    split at h
    · rename_i d hd
      split at hd
      · rename_i c
        cases hd
        have n1 := q1.length
        have n2 := q2.length
        refine op_catT pins s σ H _ _ _ _ Q I rx ry ⟨_, _, _, _, rfl, rfl, un.seqT e1, un.seqT e2, ?_, by rw [n1, n2]; exact c.2.2.2, ?_⟩
        · intro z; rw [z] at n1; exact c.2.2.1 (List.eq_nil_of_length_eq_zero n1.symm)
        · refine ⟨fun z => ?_, fun _ p hp => post_tup un h ((q1.nil_of c.1).append (q2.nil_of c.2.1)) hp⟩
          rw [z] at n2
          have z2 := List.eq_nil_of_length_eq_zero n2.symm
          rw [z2, List.append_nil] at h
          exact post_val un h (.tup e1 (q1.nil_of c.1))
      · cases hd
    · exact h.elim
  | _ => exact h.elim
theorem RelL.rep {G : Gd} {P H : Hp} {xs : List V} {ds : List D} (r : RelL G P H xs ds []) : ∀ n : Nat, RelL G P H (List.replicate n xs).flatten (List.replicate n ds).flatten []
  | 0 => .nil
  | n + 1 => by
    rw [List.replicate_succ, List.replicate_succ, List.flatten_cons, List.flatten_cons]
    exact r.append (RelL.rep r n)
theorem o_mul : OpR X (binaryOp .Mult) (rD (gd X) opMul) := by
  intro pins s σ H x y v u Q I rx ry ⟨P, dx, dy, Bx, By, un, r1, r2, o1, o2, h⟩
  have lst : ∀ {a : Addr} {xs : List V} {ds : List D} {A : List Addr}, H a = some (.lst xs) → RelL (gd X) P H xs ds A → RelV (.ref a) v → (match opMul (.lst true ds) dy with | some d => Post (gd X) P H Q d | none => False) → wpAny (model X.prog X.w) X.A (binaryOp .Mult v u) (EP X pins σ Q) X.xe s := by
    intro a xs ds A e1 q1 rx h
    cases r2 <;> first | exact h.elim | skip
    rename_i k _
    simp only [opMul] at h
    split at h
    · rename_i d hd
      split at hd
      · rename_i c
        cases hd
        exact op_rep pins s σ H _ _ _ _ Q I rx ry ⟨a, k, xs, rfl, rfl, e1, c.2.1, c.2.2.1, by rw [q1.length]; exact c.2.2.2, fun p hp => post_lst un h ((q1.nil_of c.1).rep _) hp⟩
      · cases hd
    · exact h.elim
  cases r1 <;> first | exact h.elim | skip
  case lstF e1 q1 =>
    refine lst ?_ q1 rx (by cases dy <;> exact h)
    rcases un _ _ e1 with z | ⟨_, _, z, _⟩ | ⟨_, _, z, _⟩
    · exact z
    · cases z
    · cases z
  case lstO e1 q1 => exact lst e1 q1 rx (by cases dy <;> exact h)
  cases r2 <;> first | exact h.elim | skip
  rename_i i j
  simp only [opMul] at h
  split at h
  · rename_i d hd
    split at hd
    · rename_i c
      cases hd
      simp only [mulOk, sml, Bool.or_eq_true, Bool.and_eq_true, decide_eq_true_eq] at c
      rcases c with (c | c) | c
      · exact op_mul pins s σ H _ _ _ _ Q I rx ry ⟨_, _, rfl, rfl, .inl c, post_val un h (.int _)⟩
      · exact op_mul pins s σ H _ _ _ _ Q I rx ry ⟨_, _, rfl, rfl, .inr c, post_val un h (.int _)⟩
      · exact op_mulW pins s σ H _ _ _ _ Q I rx ry ⟨_, _, rfl, rfl, (by show _ + _ < 1000000; omega), post_val un h (.int _)⟩
    · cases hd
  · exact h.elim
theorem o_fdiv : OpR X (binaryOp .FloorDiv) (rD (gd X) opFdiv) := by
  intro pins s σ H x y v u Q I rx ry ⟨P, dx, dy, Bx, By, un, r1, r2, o1, o2, h⟩
  cases r1 <;> first | exact h.elim | skip
  cases r2 <;> first | exact h.elim | skip
  rename_i i j
  simp only [opFdiv] at h
  split at h
  · rename_i d hd
    split at hd
    · rename_i c
      cases hd
      obtain ⟨t, rfl⟩ := rx
      obtain ⟨t', rfl⟩ := ry
      simp only [sml, decide_eq_true_eq] at c
      exact floordiv_int c.1 ⟨.int _, H, I.tok _, ⟨_, rfl⟩, post_val un h (.int _)⟩ (.inl (PyProof.noPylong_of_log2 (by omega)))
    · cases hd
  · exact h.elim
theorem o_mod : OpR X (binaryOp .Mod) (rD (gd X) opMod) := by
  intro pins s σ H x y v u Q I rx ry ⟨P, dx, dy, Bx, By, un, r1, r2, o1, o2, h⟩
  cases r1 <;> first | exact h.elim | skip
  cases r2 <;> first | exact h.elim | skip
  rename_i i j
  simp only [opMod] at h
  split at h
  · rename_i d hd
    split at hd
    · rename_i c
      cases hd
      exact op_modN pins s σ H _ _ _ _ Q I rx ry ⟨_, _, rfl, rfl, c, post_val un h (.int _)⟩
    · cases hd
  · exact h.elim
theorem o_pow : OpR X (binaryOp .Pow) (rD (gd X) opPow) := by
  intro pins s σ H x y v u Q I rx ry ⟨P, dx, dy, Bx, By, un, r1, r2, o1, o2, h⟩
  cases r1 <;> first | exact h.elim | skip
  cases r2 <;> first | exact h.elim | skip
  rename_i i j
  simp only [opPow] at h
  split at h
  · rename_i d hd
    split at hd
    · rename_i c
      cases hd
      exact op_pow pins s σ H _ _ _ _ Q I rx ry ⟨_, _, rfl, rfl, c, post_val un h (.int _)⟩
    · cases hd
  · exact h.elim
theorem o_lt : OpR X (compareOp .Lt) (rD (gd X) opLt) := by
  intro pins s σ H x y v u Q I rx ry ⟨P, dx, dy, Bx, By, un, r1, r2, o1, o2, h⟩
  cases r1 <;> first | exact h.elim | skip
  cases r2 <;> first | exact h.elim | skip
  exact op_lt pins s σ H _ _ _ _ Q I rx ry ⟨_, _, rfl, rfl, post_val un h (.bl _)⟩
theorem o_le : OpR X (compareOp .LtE) (rD (gd X) opLe) := by
  intro pins s σ H x y v u Q I rx ry ⟨P, dx, dy, Bx, By, un, r1, r2, o1, o2, h⟩
  cases r1 <;> first | exact h.elim | skip
  cases r2 <;> first | exact h.elim | skip
  exact op_le pins s σ H _ _ _ _ Q I rx ry ⟨_, _, rfl, rfl, post_val un h (.bl _)⟩
theorem o_gt : OpR X (compareOp .Gt) (rD (gd X) opGt) := by
  intro pins s σ H x y v u Q I rx ry ⟨P, dx, dy, Bx, By, un, r1, r2, o1, o2, h⟩
  cases r1 <;> first | exact h.elim | skip
  cases r2 <;> first | exact h.elim | skip
  exact op_gt pins s σ H _ _ _ _ Q I rx ry ⟨_, _, rfl, rfl, post_val un h (.bl _)⟩
theorem o_ge : OpR X (compareOp .GtE) (rD (gd X) opGe) := by
  intro pins s σ H x y v u Q I rx ry ⟨P, dx, dy, Bx, By, un, r1, r2, o1, o2, h⟩
  cases r1 <;> first | exact h.elim | skip
  cases r2 <;> first | exact h.elim | skip
  exact op_ge pins s σ H _ _ _ _ Q I rx ry ⟨_, _, rfl, rfl, post_val un h (.bl _)⟩
theorem o_eq (hr : Room k X.A) : OpR X (compareOp .Eq) (rD (gd X) opEq) := by
  intro pins s σ H x y v u Q I rx ry ⟨P, dx, dy, Bx, By, un, r1, r2, o1, o2, h⟩
  unfold opEq at h
  cases hst : strs? dx dy with
  | some b =>
    obtain ⟨a, c, rfl, rfl, rfl⟩ := strs_of hst
    rw [hst] at h
    cases r1
    cases r2
    refine op_eq pins s σ H _ _ _ _ Q I rx ry ⟨rfl, ?_⟩
    have e : decide (V.str a = V.str c) = decide (a = c) := decide_eq_decide.mpr ⟨fun z => V.str.inj z, fun z => congrArg V.str z⟩
    rw [e]
    exact post_val un h (.bl _)
  | none =>
    rw [hst] at h
    by_cases c : dx.fit = true ∧ dy.fit = true
    · simp only [c, and_self, if_true] at h
      exact op_eqD hr.units pins s σ H _ _ _ _ Q I rx ry ⟨_, _, r1.dp un c.1, r2.dp un c.2, fit_ok c.1, fit_ok c.2, post_val un h (.bl _)⟩
    · simp only [c, if_false] at h
theorem o_ne (hr : Room k X.A) : OpR X (compareOp .NotEq) (rD (gd X) opNe) := by
  intro pins s σ H x y v u Q I rx ry ⟨P, dx, dy, Bx, By, un, r1, r2, o1, o2, h⟩
  unfold opNe at h
  cases hst : strs? dx dy with
  | some b =>
    obtain ⟨a, c, rfl, rfl, rfl⟩ := strs_of hst
    rw [hst] at h
    cases r1
    cases r2
    refine op_ne pins s σ H _ _ _ _ Q I rx ry ⟨rfl, ?_⟩
    have e : decide (V.str a = V.str c) = decide (a = c) := decide_eq_decide.mpr ⟨fun z => V.str.inj z, fun z => congrArg V.str z⟩
    rw [e]
    exact post_val un h (.bl _)
  | none =>
    rw [hst] at h
    by_cases c : dx.fit = true ∧ dy.fit = true
    · simp only [c, and_self, if_true] at h
      exact op_neD hr.units pins s σ H _ _ _ _ Q I rx ry ⟨_, _, r1.dp un c.1, r2.dp un c.2, fit_ok c.1, fit_ok c.2, post_val un h (.bl _)⟩
    · simp only [c, if_false] at h
theorem o_is : OpR X (compareOp .Is) (rD (gd X) opIs) := by
  intro pins s σ H x y v u Q I rx ry ⟨P, dx, dy, Bx, By, un, r1, r2, o1, o2, h⟩
  cases r2 with
  | non =>
    have e := is_non r1
    refine op_isN pins s σ H _ _ _ _ Q I rx ry ⟨rfl, ?_⟩
    rw [e]
    cases r1 <;> exact post_val un h (.bl _)
  | bl b =>
    cases r1 <;> first | exact h.elim | skip
    exact op_isBl pins s σ H _ _ _ _ Q I rx ry ⟨_, _, rfl, rfl, post_val un h (.bl _)⟩
  | _ => cases r1 <;> exact h.elim
theorem o_isnot : OpR X (compareOp .IsNot) (rD (gd X) opIsNot) := by
  intro pins s σ H x y v u Q I rx ry ⟨P, dx, dy, Bx, By, un, r1, r2, o1, o2, h⟩
  cases r2 with
  | non =>
    have e := is_non r1
    refine op_notN pins s σ H _ _ _ _ Q I rx ry ⟨rfl, ?_⟩
    rw [e]
    cases r1 <;> exact post_val un h (.bl _)
  | bl b =>
    cases r1 <;> first | exact h.elim | skip
    exact op_notBl pins s σ H _ _ _ _ Q I rx ry ⟨_, _, rfl, rfl, post_val un h (.bl _)⟩
  | _ => cases r1 <;> exact h.elim
end
end RL

/-! RL: subscripts, slices, displays, calls of built-ins. -/
namespace RL
open PySem PySem.Spec PyProof.Rows L2

section
variable {G : Gd} {P H : Hp}
theorem atI_rel {vs : List V} {ds : List D} {A : List Addr} {i : Int} {d : D} (r : RelL G P H vs ds A) (e : atI ds i = some d) : ∃ v B, atI vs i = some v ∧ Rel G P H v d B ∧ ∀ b ∈ B, b ∈ A := by
  unfold atI at e ⊢
  rw [r.length]
  cases h : ixN ds.length i with
  | none => rw [h] at e; cases e
  | some j =>
    rw [h] at e
    exact r.get e
/-- what a dict holds at a key -/
def lookD : List Key → List D → Key → Option D
  | k :: ks, d :: ds, j => if k = j then some d else lookD ks ds j
  | _, _, _ => none
theorem lookD_rel : ∀ {ks : List Key} {vs : List V} {ds : List D} {A : List Addr} {k : Key} {d : D}, RelL G P H vs ds A → ks.length = vs.length → lookD ks ds k = some d → ∃ v B, valV (ks.zip vs) k = some v ∧ Rel G P H v d B ∧ ∀ b ∈ B, b ∈ A
  | [], _, _, _, _, _, _, _, e => by simp [lookD] at e
  | _ :: _, [], _, _, _, _, _, h, _ => by simp at h
  | k :: ks, v :: vs, _, _, j, d, .cons (d := d0) (ds := ds) r t, h, e => by
    by_cases hk : k = j
    · have e' : d0 = d := by simpa [lookD, hk] using e
      subst e'
      refine ⟨v, _, ?_, r, fun b hb => List.mem_append_left _ hb⟩
      simp [valV, hk]
    · have e' : lookD ks ds j = some d := by simpa [lookD, hk] using e
      obtain ⟨w, B, h1, h2, h3⟩ := lookD_rel t (by simpa using h) e'
      refine ⟨w, B, ?_, h2, fun b hb => List.mem_append_right _ (h3 b hb)⟩
      unfold valV at h1 ⊢
      rw [List.zip_cons_cons, List.find?_cons_of_neg (by simpa using hk)]
      exact h1
theorem lookD_none : ∀ {ks : List Key} {vs : List V} {ds : List D} {A : List Addr} {k : Key}, RelL G P H vs ds A → ks.length = vs.length → lookD ks ds k = none → valV (ks.zip vs) k = none
  | [], _, _, _, _, _, _, e => by simp [valV]
  | _ :: _, [], _, _, _, _, h, _ => by simp at h
  | k :: ks, v :: vs, _, _, j, .cons (d := d0) (ds := ds) r t, h, e => by
    by_cases hk : k = j
    · simp [lookD, hk] at e
    · have e' : lookD ks ds j = none := by simpa [lookD, hk] using e
      have h1 := lookD_none t (by simpa using h) e'
      unfold valV at h1 ⊢
      rw [List.zip_cons_cons, List.find?_cons_of_neg (by simpa using hk)]
      exact h1
end
def keyOf : D → Option Key
  | .int i => some (.inl i)
  | .str x => some (.inr x)
  | _ => none
/-- o[i] -/
def opIx : D → D → Option D
  | .tup ds, .int i => atI ds i
  | .lst _ ds, .int i => atI ds i
  | .scr ns, .int i => (atI ns i).map .int
  | .str z, .int i => if z.length ≤ sizeLine then (atI z.cps.toList i).map fun c => .str ⟨#[c]⟩ else none
  | .dct _ ks ds, k => (keyOf k).bind (lookD ks ds)
  | _, _ => none
/-- .. of what is no dict -/
def opIxS : D → D → Option D
  | .dct _ _ _, _ => none
  | d, e => opIx d e
/-- the rule's question where the answer may be owned -/
def rDB (G : Gd) (f : D → D → Option D) : R2 := fun x y H Q => ∃ P dx dy Bx By, Under P H ∧ Rel G P H x dx Bx ∧ Rel G P H y dy By ∧ (∀ b ∈ Bx, P b = none) ∧ (∀ b ∈ By, P b = none) ∧ match f dx dy with
  | some d => PostB G P H Q d
  | none => False
section
variable {X : Cx} {W : WX} {a b e : Expr} {pos : Pos} {Sa Sb S : Env → Res D}
theorem twoB {f : D → D → Option D} {r : R2} (hr : ∀ x y H Q, rDB (gd X) f x y H Q → r x y H Q) {σ : Sl} {H : Hp} {Q : VK} (h : tBo (gd X) W (s2 f Sa Sb) σ H Q) : tOp r (tBo (gd X) W Sa) (tBo (gd X) W Sb) σ H Q := by
  obtain ⟨P, ρ, A, st, h⟩ := h
  refine ⟨P, ρ, A, st, ?_⟩
  unfold s2 at h
  cases ha : Sa ρ with
  | bad => simp only [ha, Res.bind] at h
  | exc x => simp only [ha, Res.bind] at h; exact h
  | ok dx =>
    simp only [ha, Res.bind] at h
    intro v P1 H1 B1 e1 r1 o1
    refine ⟨P1, ρ, A, st.ext e1, ?_⟩
    cases hb : Sb ρ with
    | bad => simp only [hb] at h
    | exc x => simp only [hb] at h; exact PostX.ext h st.und e1
    | ok dy =>
      simp only [hb] at h
      intro v2 P2 H2 B2 e2 r2 o2
      refine hr _ _ _ _ ⟨P2, dx, dy, B1, B2, e2.und, r1.ext e2 o1, r2, (e2.own r1.at o1).2, o2, ?_⟩
      cases hf : f dx dy with
      | none => simp only [hf, opt] at h
      | some d => simp only [hf, opt] at h; exact PostB.ext h st.und (e1.trans st.und e2)
theorem dget_of {x : V} {P H : Hp} {o : Bool} {ks : List Key} {ds : List D} {A : List Addr} (un : Under P H) (r : Rel (gd X) P H x (.dct o ks ds) A) : ∃ d vs B, x = .ref d ∧ Rd H d (.dK (ks.zip vs)) ∧ ks.length = vs.length ∧ RelL (gd X) P H vs ds B ∧ ∀ b ∈ B, b ∈ A := by
  cases r with
  | dctF q l r =>
    refine ⟨_, _, _, rfl, ?_, l, r, fun b hb => hb⟩
    rcases un _ _ q with z | ⟨ob, _, _, z⟩ | ⟨_, _, z, _⟩
    · exact .inl z
    · exact .inr ⟨ob, z⟩
    · cases z
  | dctO q l r => exact ⟨_, _, _, rfl, .inl q, l, r, fun b hb => List.mem_cons_of_mem _ hb⟩
theorem ix_ok {x y : V} {H : Hp} {Q : VK} (h : rDB (gd X) opIxS x y H Q) : rIx X.K x y H Q := by
  obtain ⟨P, dx, dy, Bx, By, un, r1, r2, o1, o2, h⟩ := h
  cases ho : opIxS dx dy with
  | none => rw [ho] at h; exact h.elim
  | some d =>
    rw [ho] at h
    cases r1 with
    | tup q r =>
      cases r2 <;> simp [opIxS, opIx] at ho
      obtain ⟨v, B, h1, h2, h3⟩ := atI_rel r ho
      exact .inr (.inl ⟨_, _, _, v, rfl, rfl, un.seqT q, h1, h v P H B (Ext.refl un) h2 fun b hb => o1 b (h3 b hb)⟩)
    | lstF q r =>
      cases r2 <;> simp [opIxS, opIx] at ho
      obtain ⟨v, B, h1, h2, h3⟩ := atI_rel r ho
      exact .inl ⟨_, _, _, v, rfl, rfl, un.seqL (SqL.of q), h1, h v P H B (Ext.refl un) h2 fun b hb => o1 b (h3 b hb)⟩
    | lstO q r =>
      cases r2 <;> simp [opIxS, opIx] at ho
      obtain ⟨v, B, h1, h2, h3⟩ := atI_rel r ho
      exact .inl ⟨_, _, _, v, rfl, rfl, SqL.of q, h1, h v P H B (Ext.refl un) h2 fun b hb => o1 b (List.mem_cons_of_mem _ (h3 b hb))⟩
    | scr q =>
      cases r2 <;> simp [opIxS, opIx] at ho
      obtain ⟨n, hn, rfl⟩ := ho
      refine .inl ⟨_, _, _, .int n, rfl, rfl, un.seqL q, ?_, h _ P H [] (Ext.refl un) (.int n) (fun b hb => by simp at hb)⟩
      unfold atI at hn ⊢
      rw [List.length_map]
      cases hi : ixN _ _ with
      | none => rw [hi] at hn; cases hn
      | some j =>
        rw [hi] at hn
        simp only [Option.bind] at hn ⊢
        rw [List.getElem?_map, hn]; rfl
    | str z =>
      cases r2 <;> simp [opIxS, opIx] at ho
      obtain ⟨c, n, hn, rfl⟩ := ho
      exact .inr (.inr ⟨_, _, n, rfl, rfl, c, hn, h _ P H [] (Ext.refl un) (.str _) (fun b hb => by simp at hb)⟩)
    | _ => cases r2 <;> simp [opIxS, opIx] at ho
def sIx (Sa Sb : Env → Res D) : Env → Res D := s2 opIx Sa Sb
theorem b_sub (hu : X.A.units + 1 < cLine) (ha : BOk X W a Sa) (hb : BOk X W b Sb) (hs : PlainIx b := by exact fun _ _ => rfl) : BOk X W (.Subscript a b pos) (sIx Sa Sb) :=
  ⟨PE.imp (PE.or (pe_ix ix_seq ha.pe hb.pe hs) (pe_dget hu ha.pe hb.pe hs)) fun σ H Q h => by
    obtain ⟨P, ρ, A, st, h'⟩ := id h
    cases hd : Sa ρ with
    | bad => simp only [sIx, s2, hd, Res.bind] at h'
    | exc x => exact .inl ⟨P, ρ, A, st, by rw [hd]; simp only [sIx, s2, hd, Res.bind] at h'; exact h'⟩
    | ok dx =>
      by_cases hdc : ∃ o ks ds, dx = .dct o ks ds
      · refine .inr ⟨P, ρ, A, st, ?_⟩
        rw [hd]
        obtain ⟨o, ks, ds, rfl⟩ := hdc
        simp only [sIx, s2, hd, Res.bind] at h'
        intro v P1 H1 B1 e1 r1 o1
        refine ⟨P1, ρ, A, st.ext e1, ?_⟩
        cases hb : Sb ρ with
        | bad => simp only [hb] at h'
        | exc x => simp only [hb] at h'; exact PostX.ext h' st.und e1
        | ok dy =>
          simp only [hb] at h'
          intro v2 P2 H2 B2 e2 r2 o2
          have r1' := r1.ext e2 o1
          obtain ⟨d, vs, B, rfl, hdk, hl, rl, hB⟩ := dget_of e2.und r1'
          cases hk : keyOf dy with
          | none => simp only [opIx, hk, Option.bind, opt] at h'
          | some k =>
            simp only [opIx, hk, Option.bind] at h'
            cases hlk : lookD ks ds k with
            | none => simp only [hlk, opt] at h'
            | some dv =>
              simp only [hlk, opt] at h'
              obtain ⟨w, C, hw, rw', hC⟩ := lookD_rel rl hl hlk
              refine ⟨d, w, rfl, .inl ⟨_, k, hdk, ?_, hw.symm⟩, PostB.ext h' st.und (e1.trans st.und e2) _ P2 H2 C (Ext.refl e2.und) rw' fun b hb => (e2.own r1.at o1).2 b (hB b (hC b hb))⟩
              cases r2 <;> simp [keyOf] at hk <;> subst hk <;> rfl
      · have hne : ∀ o ks ds, dx ≠ .dct o ks ds := fun o ks ds e => hdc ⟨o, ks, ds, e⟩
        have heq : s2 opIxS Sa Sb ρ = s2 opIx Sa Sb ρ := by
          simp only [s2, hd, Res.bind]
          cases Sb ρ with
          | ok dy => cases dx <;> first | exact absurd rfl (hne _ _ _) | rfl
          | exc x => rfl
          | bad => rfl
        refine .inl (twoB (f := opIxS) (fun x y H2 Q2 h2 => ix_ok h2) (Sa := Sa) (Sb := Sb) ⟨P, ρ, A, st, by rw [heq]; exact h'⟩)⟩
theorem e_sub (hu : X.A.units + 1 < cLine) (ha : BOk X W a Sa) (hb : BOk X W b Sb) (hs : PlainIx b := by exact fun _ _ => rfl) : EOk X W (.Subscript a b pos) (sCl (sIx Sa Sb)) := (b_sub hu ha hb hs).eo

/-! ### slices -/
structure POk (X : Cx) (W : WX) (e : Option Expr) (S : Env → Res (Option Int)) : Prop where
  po : PO X e fun σ H Q => ∃ P ρ A, StRel (gd X) P H σ ρ A ∧ match S ρ with
    | .ok i => ∀ P' H', Ext P H P' H' [] → Q i H'
    | .exc x => PostX (gd X) P H W σ x
    | .bad => False
theorem PO.imp {X : Cx} {e : Option Expr} {t t' : TO} (h : PO X e t) (f : ∀ σ H Q, t' σ H Q → t σ H Q) : PO X e t' := ⟨fun pins s σ H Q I q => h.run pins s σ H Q I (f σ H Q q)⟩
def asI : D → Res Int
  | .int i => .ok i
  | _ => .bad
def sPn : Env → Res (Option Int) := fun _ => .ok none
def sPs (S : Env → Res D) : Env → Res (Option Int) := fun ρ => (S ρ).bind fun d => (asI d).bind fun i => .ok (some i)
theorem p_none : POk X W none sPn := ⟨PO.imp po_none fun σ H Q ⟨P, ρ, A, st, q⟩ => q P H (Ext.refl st.und)⟩
theorem p_some (h : BOk X W e S) : POk X W (some e) (sPs S) := ⟨PO.imp (po_some h.pe) fun σ H Q ⟨P, ρ, A, st, q⟩ => ⟨P, ρ, A, st, by
  unfold sPs at q
  cases hs : S ρ with
  | bad => simp only [hs, Res.bind] at q
  | exc x => simp only [hs, Res.bind] at q; exact q
  | ok d =>
    simp only [hs, Res.bind] at q
    intro v P' H' B e r f
    cases d with
    | int i => cases r; exact ⟨i, rfl, q P' H' e⟩
    | _ => simp only [asI] at q⟩⟩
/-- xs[lo:hi] of any list -/
def cutL {α : Type} (xs : List α) (lo hi : Option Int) : List α := (xs.drop (HT.sIx xs.length 0 lo)).take (HT.sIx xs.length xs.length hi - HT.sIx xs.length 0 lo)
theorem RelL.drop {G : Gd} {P H : Hp} : ∀ (n : Nat) {vs : List V} {ds : List D}, RelL G P H vs ds [] → RelL G P H (vs.drop n) (ds.drop n) [] := fun n {vs ds} r => by
  generalize hA : ([] : List Addr) = A at r
  induction n generalizing vs ds A with
  | zero => subst hA; exact r
  | succ n ih =>
    cases r with
    | nil => exact .nil
    | cons r1 r2 =>
      have e := List.append_eq_nil_iff.mp hA.symm
      obtain ⟨rfl, rfl⟩ := e
      exact ih _ rfl r2
theorem RelL.take {G : Gd} {P H : Hp} : ∀ (n : Nat) {vs : List V} {ds : List D}, RelL G P H vs ds [] → RelL G P H (vs.take n) (ds.take n) [] := fun n {vs ds} r => by
  generalize hA : ([] : List Addr) = A at r
  induction n generalizing vs ds A with
  | zero => subst hA; exact .nil
  | succ n ih =>
    cases r with
    | nil => exact .nil
    | cons r1 r2 =>
      have e := List.append_eq_nil_iff.mp hA.symm
      obtain ⟨rfl, rfl⟩ := e
      exact .cons (A := []) (B := []) r1 (ih _ rfl r2)
theorem RelL.cut {G : Gd} {P H : Hp} {vs : List V} {ds : List D} (r : RelL G P H vs ds []) (lo hi : Option Int) : RelL G P H (cutV vs lo hi) (cutL ds lo hi) [] := by
  unfold cutV cutL
  rw [r.length]
  exact RelL.take _ (RelL.drop _ r)
theorem ints_rel {G : Gd} {P H : Hp} : ∀ ns : List Int, RelL G P H (ns.map V.int) (ns.map D.int) []
  | [] => .nil
  | n :: ns => .cons (A := []) (B := []) (.int n) (ints_rel ns)
def opSl (d : D) (lo hi : Option Int) : Option D := match d with
  | .lst _ ds => if cleanL ds = true then some (.lst true (cutL ds lo hi)) else none
  | .tup ds => if cleanL ds = true ∧ ¬ (HT.sIx ds.length 0 lo = 0 ∧ HT.sIx ds.length ds.length hi = ds.length) then some (.tup (cutL ds lo hi)) else none
  | .str z => if z.length ≤ sizeLine then some (.str (cutS z lo hi)) else none
  | .scr ns => some (.lst true ((cutL ns lo hi).map .int))
  | _ => none
def sSl (S : Env → Res D) (L U : Env → Res (Option Int)) : Env → Res D := fun ρ => (S ρ).bind fun d => (L ρ).bind fun lo => (U ρ).bind fun hi => opt (opSl d lo hi)
theorem SlR.or {X : Cx} {r r' : V → Option Int → Option Int → Hp → VK → Prop} (h : SlR X r) (h' : SlR X r') : SlR X fun x lo hi H Q => r x lo hi H Q ∨ r' x lo hi H Q := by
  intro pins s σ H x v vl vu lo hi sl Q I rx hs pl pu q
  rcases q with q | q
  · exact h pins s σ H x v vl vu lo hi sl Q I rx hs pl pu q
  · exact h' pins s σ H x v vl vu lo hi sl Q I rx hs pl pu q
theorem e_slice {lo hi : Option Expr} {p2 : Pos} {L U : Env → Res (Option Int)} (he : BOk X W e S) (hl : POk X W lo L) (hh : POk X W hi U) : EOk X W (.Subscript e (.Slice lo hi none p2) pos) (sSl S L U) :=
  ⟨PE.imp (pe_slice (SlR.or sl_list (SlR.or sl_tup sl_str)) he.pe hl.po hh.po) fun σ H Q ⟨P, ρ, A, st, h⟩ => ⟨P, ρ, A, st, by
    unfold sSl at h
    cases hs : S ρ with
    | bad => simp only [hs, Res.bind] at h
    | exc x => simp only [hs, Res.bind] at h; exact h
    | ok d =>
      simp only [hs, Res.bind] at h
      intro v P1 H1 B1 e1 r1 o1
      refine ⟨P1, ρ, A, st.ext e1, ?_⟩
      cases hL : L ρ with
      | bad => simp only [hL] at h
      | exc x => simp only [hL] at h; exact PostX.ext h st.und e1
      | ok l =>
        simp only [hL] at h
        intro P2 H2 e2
        have e12 := e1.trans st.und e2
        refine ⟨P2, ρ, A, st.ext e12, ?_⟩
        cases hU : U ρ with
        | bad => simp only [hU] at h
        | exc x => simp only [hU] at h; exact PostX.ext h st.und e12
        | ok u =>
          simp only [hU] at h
          intro P3 H3 e3
          have e13 := e12.trans st.und e3
          have r3 := (r1.ext e2 o1).ext e3 (e2.own r1.at o1).2
          cases ho : opSl d l u with
          | none => simp only [ho, opt] at h
          | some z =>
            simp only [ho, opt] at h
            have q := Post.ext h st.und e13
            have un := e13.und
            clear h
            cases r3 with
            | tup q1 r =>
              simp only [opSl] at ho
              split at ho
              · rename_i c
                cases ho
                refine .inr (.inl ⟨_, _, rfl, un.seqT q1, ?_, fun p hp => post_tup un q ((r.nil_of c.1).cut l u) hp⟩)
                rw [r.length]; exact c.2
              · cases ho
            | lstF q1 r =>
              simp only [opSl] at ho
              split at ho
              · rename_i c
                cases ho
                exact .inl ⟨_, _, rfl, un.seqL (SqL.of q1), fun p hp => post_lst un q ((r.nil_of c).cut l u) hp⟩
              · cases ho
            | lstO q1 r =>
              simp only [opSl] at ho
              split at ho
              · rename_i c
                cases ho
                exact .inl ⟨_, _, rfl, SqL.of q1, fun p hp => post_lst un q ((r.nil_of c).cut l u) hp⟩
              · cases ho
            | @scr a0 ns q1 =>
              simp only [opSl] at ho
              cases ho
              refine .inl ⟨_, _, rfl, un.seqL q1, fun p hp => ?_⟩
              have e : cutV (ns.map V.int) l u = (cutL ns l u).map V.int := by
                unfold cutV cutL
                rw [List.length_map, List.map_take, List.map_drop]
              rw [e]
              exact post_lst un q (ints_rel _) hp
            | str x =>
              simp only [opSl] at ho
              split at ho
              · rename_i c
                cases ho
                exact .inr (.inr ⟨_, rfl, c, post_val un q (.str _)⟩)
              · cases ho
            | _ => simp [opSl] at ho⟩⟩
/-- xs[::-1] -/
def opRev : D → Option D
  | .lst _ ds => if cleanL ds = true then some (.lst true ds.reverse) else none
  | _ => none
theorem RelL.rev {G : Gd} {P H : Hp} : ∀ {vs : List V} {ds : List D}, RelL G P H vs ds [] → RelL G P H vs.reverse ds.reverse [] := fun {vs ds} r => by
  generalize hA : ([] : List Addr) = A at r
  induction vs generalizing ds A with
  | nil => cases r; exact .nil
  | cons v vs ih =>
    cases r with
    | cons r1 r2 =>
      have e := List.append_eq_nil_iff.mp hA.symm
      obtain ⟨rfl, rfl⟩ := e
      rw [List.reverse_cons, List.reverse_cons]
      exact (ih _ rfl r2).append (.cons (A := []) (B := []) r1 .nil)
def s1 (f : D → Option D) (S : Env → Res D) : Env → Res D := fun ρ => (S ρ).bind fun d => opt (f d)
theorem e_rev {k : Nat} {p1 p2 p3 : Pos} (he : BOk X W e S) : EOk X W (.Subscript e (.Slice none none (some (.UnaryOp .USub (.Constant (.int 1) k p1) p2)) p3) pos) (s1 opRev S) :=
  ⟨PE.imp (pe_revL he.pe) fun σ H Q ⟨P, ρ, A, st, h⟩ => ⟨P, ρ, A, st, by
    unfold s1 at h
    cases hs : S ρ with
    | bad => simp only [hs, Res.bind] at h
    | exc x => simp only [hs, Res.bind] at h; exact h
    | ok d =>
      simp only [hs, Res.bind] at h
      intro v P1 H1 B1 e1 r1 o1
      cases ho : opRev d with
      | none => simp only [ho, opt] at h
      | some z =>
        simp only [ho, opt] at h
        have q := Post.ext h st.und e1
        have un := e1.und
        cases r1 with
        | lstF q1 r =>
          simp only [opRev] at ho
          split at ho
          · rename_i c
            cases ho
            exact ⟨_, _, rfl, un.seqL (SqL.of q1), fun p hp => post_lst un q (r.nil_of c).rev hp⟩
          · cases ho
        | lstO q1 r =>
          simp only [opRev] at ho
          split at ho
          · rename_i c
            cases ho
            exact ⟨_, _, rfl, SqL.of q1, fun p hp => post_lst un q (r.nil_of c).rev hp⟩
          · cases ho
        | _ => simp [opRev] at ho⟩⟩

/-! ### displays -/
def sTup (S : Env → Res (List D)) : Env → Res D := fun ρ => (S ρ).bind fun ds => if ds.length ≤ sizeLine then .ok (.tup ds) else .bad
def sLst (S : Env → Res (List D)) : Env → Res D := fun ρ => (S ρ).bind fun ds => if ds.length ≤ sizeLine then .ok (.lst true ds) else .bad
theorem upd_own {P H : Hp} {A : List Addr} {p : Addr} {o : HO} (h : H p = none) (ha : ∀ b ∈ A, ∃ w, H b = some w) : ∀ b ∈ A, upd H p o b = H b := fun b hb => by
  obtain ⟨w, q⟩ := ha b hb
  exact upd_ne (ne_of_none q h)
theorem e_tup {es : List Expr} {k : Nat} {S : Env → Res (List D)} (h : AOk X W es S) : EOk X W (.Tuple es k pos) (sTup S) := ⟨PE.imp (pe_tup h.pa) fun σ H Q ⟨P, ρ, A, st, h⟩ => ⟨P, ρ, A, st, by
  unfold sTup at h
  cases hs : S ρ with
  | bad => simp only [hs, Res.bind] at h
  | exc x => simp only [hs, Res.bind] at h; exact h
  | ok ds =>
    simp only [hs, Res.bind] at h
    intro vs P1 H1 B e1 r f
    split at h
    · rename_i d hd
      split at hd
      · rename_i c
        cases hd
        refine ⟨by rw [r.length]; exact c, fun p hp => ?_⟩
        have e2 := ext_fix (o := .tup vs) e1.und hp
        have o1 : ∀ b ∈ B, P1 b = none := fun b hb => (f.2 b hb).2
        refine h _ _ _ B (e1.trans st.und e2) (.tup (SqT.of upd_same) (r.ext e2 o1)) ⟨f.1, fun b hb => ⟨(f.2 b hb).1, (e2.own r.at o1).2 b hb⟩⟩
      · cases hd
    · rename_i hd; split at hd <;> cases hd
    · exact h.elim⟩⟩
theorem e_lst {es : List Expr} {S : Env → Res (List D)} (h : AOk X W es S) : EOk X W (.List es pos) (sLst S) := ⟨PE.imp (pe_lst h.pa) fun σ H Q ⟨P, ρ, A, st, h⟩ => ⟨P, ρ, A, st, by
  unfold sLst at h
  cases hs : S ρ with
  | bad => simp only [hs, Res.bind] at h
  | exc x => simp only [hs, Res.bind] at h; exact h
  | ok ds =>
    simp only [hs, Res.bind] at h
    intro vs P1 H1 B e1 r f
    split at h
    · rename_i d hd
      split at hd
      · rename_i c
        cases hd
        refine ⟨by rw [r.length]; exact c, fun p hp => ?_⟩
        have e2 := ext_own (o := .lst vs) e1.und hp
        have o1 : ∀ b ∈ B, P1 b = none := fun b hb => (f.2 b hb).2
        have np : p ∉ B := fun hb => by
          obtain ⟨w, q⟩ := r.at p hb
          rw [hp] at q; cases q
        refine h _ _ _ (p :: B) (e1.trans st.und e2) (.lstO upd_same (r.ext e2 o1)) ⟨List.nodup_cons.mpr ⟨np, f.1⟩, fun b hb => ?_⟩
        rcases List.mem_cons.mp hb with rfl | hb
        · exact ⟨e1.free st.und hp, e1.und.free hp⟩
        · exact f.2 b hb
      · cases hd
    · rename_i hd; split at hd <;> cases hd
    · exact h.elim⟩⟩
/-- {} -/
theorem e_dnew : EOk X W (.Dict [] [] pos) (sC (.dct true [] [])) := ⟨PE.imp pe_dnewK fun σ H Q ⟨P, ρ, A, st, h⟩ => fun p hp => post_dct (ks := []) (xs := []) st.und h rfl .nil hp⟩

/-! ### calls of built-ins -/
/-- what a built-in's rule asks, by the meaning f -/
def rC (G : Gd) (f : List D → Option D) : List V → Hp → VK → Prop := fun xs H Q => ∃ P ds B, Under P H ∧ RelL G P H xs ds B ∧ (∀ b ∈ B, P b = none) ∧ match f ds with
  | some d => Post G P H Q d
  | none => False
def sCall (f : List D → Option D) (S : Env → Res (List D)) : Env → Res D := fun ρ => (S ρ).bind fun ds => opt (f ds)
theorem call_of {f : List D → Option D} {S : Env → Res (List D)} {σ : Sl} {H : Hp} {Q : VK} (h : tE (gd X) W (sCall f S) σ H Q) : tCB (rC (gd X) f) (tLB (gd X) W S) σ H Q := by
  obtain ⟨P, ρ, A, st, h⟩ := h
  refine ⟨P, ρ, A, st, ?_⟩
  unfold sCall at h
  cases hs : S ρ with
  | bad => simp only [hs, Res.bind] at h
  | exc x => simp only [hs, Res.bind] at h; exact h
  | ok ds =>
    simp only [hs, Res.bind] at h
    intro vs P1 H1 B e1 r o
    refine ⟨P1, ds, B, e1.und, r, o, ?_⟩
    cases hf : f ds with
    | none => simp only [hf, opt] at h
    | some d => simp only [hf, opt] at h; exact Post.ext h st.und e1
theorem e_callB {id : String} {x : Str} {p : Pos} {es : List Expr} {f : List D → Option D} {S : Env → Res (List D)} (hc : CallR X (.builtin id) (rC (gd X) f)) (hm : X.mg x = none) (hv : bootBuiltins x = some (.builtin id)) (ha : ABOk X W (e :: es) S)
    (hg : Gl X x := by rfl) (hn : x ≠ "__name__" := by decide) (hdb : (x == ("__debug__" : Str)) = false := by decide)
    (he : starEach (e :: es) X.env = (false, eval e X.env) :: starEach es X.env := by rfl) (hpl : (backTo pos (starEach es X.env)).any (·.1) = false := by rfl) : EOk X W (.Call (.Name x p) (e :: es) [] pos) (sCall f S) :=
  ⟨PE.imp (pe_callB hc hg hm hv ha.pa hn hdb he hpl) fun _ _ _ h => call_of h⟩
theorem e_callTy {id : String} {x : Str} {p : Pos} {es : List Expr} {f : List D → Option D} {S : Env → Res (List D)} (hc : CallR X (.type id) (rC (gd X) f)) (hm : X.mg x = none) (hv : bootBuiltins x = some (.type id)) (ha : ABOk X W (e :: es) S)
    (hg : Gl X x := by rfl) (hn : x ≠ "__name__" := by decide) (hdb : (x == ("__debug__" : Str)) = false := by decide)
    (he : starEach (e :: es) X.env = (false, eval e X.env) :: starEach es X.env := by rfl) (hpl : (backTo pos (starEach es X.env)).any (·.1) = false := by rfl) : EOk X W (.Call (.Name x p) (e :: es) [] pos) (sCall f S) :=
  ⟨PE.imp (pe_callTy hc hg hm hv ha.pa hn hdb he hpl) fun _ _ _ h => call_of h⟩
end
end RL

/-! RL: targets, what is walked, list comprehensions. -/
namespace RL
open PySem PySem.Spec PyProof.Rows L2

/-! ### targets -/
inductive Tg where
  | nm (i : Nat)
  | tp (ts : List Tg)
mutual
def Tg.set : Tg → D → Env → Option Env
  | .nm i, d, ρ => if i < ρ.length then some (ρ.set i (some d)) else none
  | .tp ts, .tup ds, ρ => tgSetL ts ds ρ
  | .tp ts, .lst _ ds, ρ => tgSetL ts ds ρ
  | _, _, _ => none
def tgSetL : List Tg → List D → Env → Option Env
  | [], [], ρ => some ρ
  | t :: ts, d :: ds, ρ => (t.set d ρ).bind (tgSetL ts ds)
  | _, _, _ => none
end
mutual
def Tg.slots : Tg → List Nat
  | .nm i => [i]
  | .tp ts => tgSlots ts
def tgSlots : List Tg → List Nat
  | [] => []
  | t :: ts => t.slots ++ tgSlots ts
end
theorem tgSetL_len : ∀ {ts : List Tg} {ds : List D} {ρ ρ' : Env}, tgSetL ts ds ρ = some ρ' → ts.length = ds.length
  | [], [], _, _, _ => rfl
  | [], _ :: _, _, _, h => by simp [tgSetL] at h
  | _ :: _, [], _, _, h => by simp [tgSetL] at h
  | t :: ts, d :: ds, ρ, ρ', h => by
    simp only [tgSetL] at h
    cases e : t.set d ρ with
    | none => rw [e] at h; cases h
    | some r =>
      rw [e] at h
      have q := tgSetL_len (ts := ts) (ds := ds) (ρ := r) (ρ' := ρ') h
      simp only [List.length_cons]; omega
def tG (G : Gd) (t : Tg) : TG := fun x σ H Q => ∃ P ρ A d B, StRel G P H σ ρ A ∧ Rel G P H x d B ∧ (B ++ A).Nodup ∧ (∀ b ∈ B, P b = none) ∧ match t.set d ρ with
  | some ρ' => ∀ σ' A', StRel G P H σ' ρ' A' → (∀ b ∈ A', b ∈ B ++ A) → σ'.length = σ.length → (∀ j, j ∉ t.slots → σ'[j]? = σ[j]?) → Q σ' H
  | none => False
def tGL (G : Gd) (ts : List Tg) : TGs := fun xs σ H Q => ∃ P ρ A ds B, StRel G P H σ ρ A ∧ RelL G P H xs ds B ∧ (B ++ A).Nodup ∧ (∀ b ∈ B, P b = none) ∧ match tgSetL ts ds ρ with
  | some ρ' => ∀ σ' A', StRel G P H σ' ρ' A' → (∀ b ∈ A', b ∈ B ++ A) → σ'.length = σ.length → (∀ j, j ∉ tgSlots ts → σ'[j]? = σ[j]?) → Q σ' H
  | none => False
structure GOk (X : Cx) (tg : Expr) (t : Tg) : Prop where pg : PG X tg (tG (gd X) t)
structure GsOk (X : Cx) (tgs : List Expr) (ts : List Tg) : Prop where pgs : PGs X tgs (tGL (gd X) ts)
theorem PG.imp {X : Cx} {e : Expr} {t t' : TG} (h : PG X e t) (f : ∀ x σ H Q, t' x σ H Q → t x σ H Q) : PG X e t' := ⟨fun pins s σ H v u Q I r q => h.run pins s σ H v u Q I r (f v σ H Q q)⟩
theorem PGs.imp {X : Cx} {e : List Expr} {t t' : TGs} (h : PGs X e t) (f : ∀ x σ H Q, t' x σ H Q → t x σ H Q) : PGs X e t' := ⟨fun pins s σ H v u Q I r q => h.run pins s σ H v u Q I r (f v σ H Q q)⟩
section
variable {X : Cx} {W : WX} {e a b : Expr} {pos : Pos} {Sa Sb S : Env → Res D}
/-- a name takes a value -/
theorem StRel.store {G : Gd} {P H : Hp} {σ : Sl} {ρ : Env} {A B : List Addr} {i : Nat} {x : V} {d : D} (st : StRel G P H σ ρ A) (r : Rel G P H x d B) (nd : (B ++ A).Nodup) (o : ∀ b ∈ B, P b = none) (hi : i < ρ.length) :
    ∃ A', StRel G P H (σ.set i (some x)) (ρ.set i (some d)) A' ∧ ∀ b ∈ A', b ∈ B ++ A := by
  obtain ⟨B0, C, p, q, _⟩ := st.env.out hi
  obtain ⟨A', p', q'⟩ := q.put (i := i) r (by simpa using hi) (by simp [hi])
  rw [List.set_set] at q'
  have cA : ∀ b ∈ C, b ∈ A := fun b hb => p.symm.subset (List.mem_append_right _ hb)
  have sub : ∀ b ∈ A', b ∈ B ++ A := fun b hb => (List.mem_append.mp (p'.subset hb)).elim (List.mem_append_left _) fun z => List.mem_append_right _ (cA b z)
  obtain ⟨n1, n2, n3⟩ := List.nodup_append.mp nd
  refine ⟨A', ⟨st.und, q', p'.symm.nodup_iff.mp (List.nodup_append.mpr ⟨n1, (p.nodup_iff.mp n2).sublist (List.sublist_append_right _ _), fun x hx y hy => n3 x hx y (cA y hy)⟩), fun b hb => ?_, st.mks⟩, sub⟩
  rcases List.mem_append.mp (sub b hb) with z | z
  · exact o b z
  · exact st.off b z
theorem g_nm (i : Nat) {x : Str} {p : Pos} (hN : X.N.Nodup) (hi : X.N[i]? = some x := by rfl) (hx : Loc X.env.scope x := by first | exact Or.inl rfl | exact Or.inr rfl) (hf : X.fn x = true ∨ X.env.scope.names.lookup x = some .local := by first | exact .inl rfl | exact .inr rfl) : GOk X (.Name x p) (.nm i) :=
  ⟨PG.imp (pg_name hN hi hx hf) fun v σ H Q ⟨P, ρ, A, d, B, st, r, nd, o, h⟩ => by
    simp only [Tg.set] at h
    by_cases hl : i < ρ.length
    · rw [if_pos hl] at h
      obtain ⟨A', st', sub⟩ := st.store r nd o hl
      refine h _ A' st' sub (by simp) fun j hj => ?_
      have hne : i ≠ j := fun e => hj (by simp [Tg.slots, e])
      rw [List.getElem?_set_ne hne]
    · rw [if_neg hl] at h; exact h.elim⟩
theorem gs_nil : GsOk X [] [] := ⟨PGs.imp pgs_nil fun xs σ H Q ⟨P, ρ, A, ds, B, st, r, nd, o, h⟩ => by
  cases r with
  | nil => exact ⟨rfl, h σ A st (fun b hb => by simpa using hb) rfl fun _ _ => rfl⟩
  | cons _ _ => simp only [tgSetL] at h⟩
theorem gs_cons {es : List Expr} {t : Tg} {ts : List Tg} (h1 : GOk X e t) (h2 : GsOk X es ts) (hs : (assignEach (e :: es) X.env).map (·.2) = assign e X.env :: (assignEach es X.env).map (·.2) := by rfl) : GsOk X (e :: es) (t :: ts) :=
  ⟨PGs.imp (pgs_cons h1.pg h2.pgs hs) fun xs σ H Q ⟨P, ρ, A, ds, B, st, r, nd, o, h⟩ => by
    cases r with
    | nil => simp only [tgSetL] at h
    | @cons v d B1 vs ds B2 r1 r2 =>
      obtain ⟨m1, m2, m3⟩ := List.nodup_append.mp nd
      obtain ⟨l1, l2, l3⟩ := List.nodup_append.mp m1
      refine ⟨_, _, rfl, P, ρ, A, d, B1, st, r1, List.nodup_append.mpr ⟨l1, m2, fun x hx y hy => m3 x (List.mem_append_left _ hx) y hy⟩, fun b hb => o b (List.mem_append_left _ hb), ?_⟩
      simp only [tgSetL] at h
      cases ht : t.set d ρ with
      | none => rw [ht] at h; exact h.elim
      | some ρ1 =>
        rw [ht] at h
        simp only [Option.bind] at h
        intro σ1 A1 st1 sub1 len1 fr1
        refine ⟨P, ρ1, A1, ds, B2, st1, r2, List.nodup_append.mpr ⟨l2, st1.nd, fun x hx y hy e => ?_⟩, fun b hb => o b (List.mem_append_right _ hb), ?_⟩
        · rcases List.mem_append.mp (sub1 y hy) with z | z
          · exact l3 y z x hx e.symm
          · exact m3 x (List.mem_append_right _ hx) y z e
        · cases hq : tgSetL ts ds ρ1 with
          | none => rw [hq] at h; exact h.elim
          | some ρ2 =>
            rw [hq] at h
            intro σ2 A2 st2 sub2 len2 fr2
            refine h σ2 A2 st2 (fun b hb => ?_) (len2.trans len1) fun j hj => ?_
            · rcases List.mem_append.mp (sub2 b hb) with z | z
              · exact List.mem_append_left _ (List.mem_append_right _ z)
              · rcases List.mem_append.mp (sub1 b z) with z | z
                · exact List.mem_append_left _ (List.mem_append_left _ z)
                · exact List.mem_append_right _ z
            · simp only [tgSlots, List.mem_append, not_or] at hj
              rw [fr2 j hj.2, fr1 j hj.1]⟩
theorem PG.or {X : Cx} {e : Expr} {t t' : TG} (h : PG X e t) (h' : PG X e t') : PG X e fun v σ H Q => t v σ H Q ∨ t' v σ H Q := ⟨fun pins s σ H v u Q I r q => q.elim (h.run pins s σ H v u Q I r) (h'.run pins s σ H v u Q I r)⟩
theorem g_tup {es : List Expr} {k : Nat} {ts : List Tg} (hc : X.calm = true) (h : GsOk X es ts) (hn : (assignEach es X.env).length = ts.length := by rfl) (hst : (assignEach es X.env).findIdx? (·.1) = none := by rfl) : GOk X (.Tuple es k pos) (.tp ts) :=
  ⟨PG.imp (PG.or (pg_tup hc h.pgs hn hst) (pg_lst hc h.pgs hn hst)) fun x σ H Q ⟨P, ρ, A, d, B, st, r, nd, o, h⟩ => by
    have go : ∀ {a : Addr} {xs : List V} {ds : List D} {A0 : List Addr}, RelL (gd X) P H xs ds A0 → (A0 ++ A).Nodup → (∀ b ∈ A0, b ∈ B) → (match tgSetL ts ds ρ with
        | some ρ' => ∀ σ' A', StRel (gd X) P H σ' ρ' A' → (∀ b ∈ A', b ∈ B ++ A) → σ'.length = σ.length → (∀ j, j ∉ (Tg.tp ts).slots → σ'[j]? = σ[j]?) → Q σ' H
        | none => False) → xs.length = ts.length ∧ tGL (gd X) ts xs σ H Q := by
      intro a xs ds A0 r nd sub h
      refine ⟨?_, P, ρ, A, ds, A0, st, r, nd, fun b hb => o b (sub b hb), ?_⟩
      · cases hq : tgSetL ts ds ρ with
        | none => rw [hq] at h; exact h.elim
        | some ρ' => rw [r.length, ← tgSetL_len hq]
      · cases hq : tgSetL ts ds ρ with
        | none => rw [hq] at h; exact h.elim
        | some ρ' =>
          rw [hq] at h
          exact fun σ' A' s1 s2 s3 s4 => h σ' A' s1 (fun b hb => (List.mem_append.mp (s2 b hb)).elim (fun z => List.mem_append_left _ (sub b z)) (List.mem_append_right _)) s3 (by simpa [Tg.slots] using s4)
    cases r with
    | @tup a xs ds A0 q r =>
      simp only [Tg.set] at h
      have z := go (a := a) r nd (fun b hb => hb) h
      exact .inl ⟨a, xs, rfl, st.und.seqT q, z.1, z.2⟩
    | @lstF a xs ds q r =>
      simp only [Tg.set] at h
      have z := go (a := a) r nd (fun b hb => hb) h
      exact .inr ⟨a, xs, rfl, st.und.seqL (SqL.of q), z.1, z.2⟩
    | @lstO a xs ds A0 q r =>
      simp only [Tg.set] at h
      have z := go (a := a) r (List.nodup_cons.mp (by simpa using nd)).2 (fun b hb => List.mem_cons_of_mem _ hb) h
      exact .inr ⟨a, xs, rfl, SqL.of q, z.1, z.2⟩
    | _ => simp only [Tg.set] at h⟩

/-! ### what is walked -/
structure ItOk (G : Gd) (bor : Bool) (J : It) (ds : List D) (Src : Hp → Hp → Prop) : Prop where
  stay : ∀ P H P' H' A, (bor = true → A = []) → Under P H → Ext P H P' H' A → Src P H → Src P' H'
  go : ∀ i P H, Under P H → Src P H → i < ds.length → J.go i H ∧ ∀ x H', J.yld i H x H' → ∃ P' d, Ext P H P' H' [] ∧ ds[i]? = some d ∧ Rel G P' H' x d []
  stop : ∀ i P H, Under P H → Src P H → ds.length ≤ i → J.stop i H
def tI (G : Gd) (W : WX) (bor : Bool) (S : Env → Res (List D)) : TI := fun σ H R => ∃ P ρ A, StRel G P H σ ρ A ∧ match S ρ with
  | .ok ds => ∀ J P' H' Src, ItOk G bor J ds Src → Src P' H' → Ext P H P' H' [] → R J H'
  | .exc x => PostX G P H W σ x
  | .bad => False
structure IOk (X : Cx) (W : WX) (bor : Bool) (tg e : Expr) (S : Env → Res (List D)) : Prop where pi : PI X tg e (tI (gd X) W bor S)
theorem PI.imp {X : Cx} {tg e : Expr} {t t' : TI} (h : PI X tg e t) (f : ∀ σ H R, t' σ H R → t σ H R) : PI X tg e t' := ⟨fun pins s σ H R I q => h.run pins s σ H R I (f σ H R q)⟩
theorem PI.or {X : Cx} {tg e : Expr} {t t' : TI} (h : PI X tg e t) (h' : PI X tg e t') : PI X tg e fun σ H R => t σ H R ∨ t' σ H R := ⟨fun pins s σ H R I q => q.elim (h.run pins s σ H R I) (h'.run pins s σ H R I)⟩
theorem RelL.at? {G : Gd} {P H : Hp} : ∀ {vs : List V} {ds : List D} {i : Nat}, RelL G P H vs ds [] → i < ds.length → ∃ v d, vs[i]? = some v ∧ ds[i]? = some d ∧ Rel G P H v d [] := fun {vs ds i} r h => by
  obtain ⟨v, B, h1, h2, h3⟩ := r.get (List.getElem?_eq_getElem h)
  have e : B = [] := by
    cases B with
    | nil => rfl
    | cons b B => exact absurd (h3 b List.mem_cons_self) (by simp)
  subst e
  exact ⟨v, _, h1, List.getElem?_eq_getElem h, h2⟩
/-- over a list that does not change -/
theorem it_list {G : Gd} {a : Addr} {xs : List V} {ds : List D} : ItOk G false (Itl G.K a) ds fun P H => P a = some (.lst xs) ∧ RelL G P H xs ds [] where
  stay := fun P H P' H' A _ _ e ⟨h, r⟩ => ⟨e.same _ _ h, r.mono e.same (by simp)⟩
  go := fun i P H u ⟨h, r⟩ hi => by
    obtain ⟨v, d, h1, h2, h3⟩ := r.at? hi
    exact ⟨⟨xs, v, u.seqL (SqL.of h), h1⟩, fun x H' hy => by
      obtain ⟨e, y⟩ := hy
      subst e
      have q := y xs (u.seqL (SqL.of h))
      rw [h1] at q
      cases q
      exact ⟨P, d, Ext.refl u, h2, h3⟩⟩
  stop := fun i P H u ⟨h, r⟩ hi => ⟨xs, u.seqL (SqL.of h), by rw [r.length]; exact hi⟩
/-- .. that a name owns -/
theorem it_listB {G : Gd} {a : Addr} {xs : List V} {ds : List D} : ItOk G true (Itl G.K a) ds fun P H => H a = some (.lst xs) ∧ P a = none ∧ RelL G P H xs ds [] where
  stay := fun P H P' H' A hA u e ⟨h, n, r⟩ => by
    obtain rfl := hA rfl
    refine ⟨e.keep _ _ h n (by simp), ?_, r.mono e.same (by simp)⟩
    exact (e.own (A := [a]) (fun b hb => by simp at hb; subst hb; exact ⟨_, h⟩) (fun b hb => by simp at hb; subst hb; exact n)).2 a (by simp)
  go := fun i P H u ⟨h, n, r⟩ hi => by
    obtain ⟨v, d, h1, h2, h3⟩ := r.at? hi
    exact ⟨⟨xs, v, SqL.of h, h1⟩, fun x H' hy => by
      obtain ⟨e, y⟩ := hy
      subst e
      have q := y xs (SqL.of h)
      rw [h1] at q
      cases q
      exact ⟨P, d, Ext.refl u, h2, h3⟩⟩
  stop := fun i P H u ⟨h, n, r⟩ hi => ⟨xs, SqL.of h, by rw [r.length]; exact hi⟩
theorem ItOk.any {G : Gd} {J : It} {ds : List D} {Src : Hp → Hp → Prop} {bor : Bool} (h : ItOk G false J ds Src) : ItOk G bor J ds Src := ⟨fun P H P' H' A _ => h.stay P H P' H' A (fun z => by cases z), h.go, h.stop⟩
theorem it_tup {G : Gd} {a : Addr} {xs : List V} {ds : List D} : ItOk G false (Itt G.K a) ds fun P H => SqT G.K P a xs ∧ RelL G P H xs ds [] where
  stay := fun P H P' H' A _ _ e ⟨h, r⟩ => ⟨Same.sqT e.same h, r.mono e.same (by simp)⟩
  go := fun i P H u ⟨h, r⟩ hi => by
    obtain ⟨v, d, h1, h2, h3⟩ := r.at? hi
    exact ⟨⟨xs, v, u.seqT h, h1⟩, fun x H' hy => by
      obtain ⟨e, y⟩ := hy
      subst e
      have q := y xs (u.seqT h)
      rw [h1] at q
      cases q
      exact ⟨P, d, Ext.refl u, h2, h3⟩⟩
  stop := fun i P H u ⟨h, r⟩ hi => ⟨xs, u.seqT h, by rw [r.length]; exact hi⟩
theorem it_scr {G : Gd} {a : Addr} {ns : List Int} : ItOk G false (Itl G.K a) (ns.map .int) fun P H => SqL G.K P a (ns.map V.int) where
  stay := fun P H P' H' A _ _ e h => Same.seq e.same h
  go := fun i P H u h hi => by
    have r : RelL G P H (ns.map V.int) (ns.map D.int) [] := ints_rel ns
    obtain ⟨v, d, h1, h2, h3⟩ := r.at? hi
    exact ⟨⟨_, v, u.seqL h, h1⟩, fun x H' hy => by
      obtain ⟨e, y⟩ := hy
      subst e
      have q := y _ (u.seqL h)
      rw [h1] at q
      cases q
      exact ⟨P, d, Ext.refl u, h2, h3⟩⟩
  stop := fun i P H u h hi => ⟨_, u.seqL h, by simpa using hi⟩
/-- the items of a list, a tuple, the script -/
def seqD : D → Option (List D)
  | .lst _ ds => if cleanL ds = true then some ds else none
  | .tup ds => if cleanL ds = true then some ds else none
  | .scr ns => some (ns.map .int)
  | _ => none
def sSeq (S : Env → Res D) : Env → Res (List D) := fun ρ => (S ρ).bind fun d => opt (seqD d)
/-- a value that comes now: its items can be walked -/
theorem seq_src {G : Gd} {P H P1 H1 : Hp} {B : List Addr} {d : D} {v : V} {ds : List D} {σ : Sl} {ρ : Env} {A : List Addr} (st : StRel G P H σ ρ A) (e : Ext P H P1 H1 []) (r : Rel G P1 H1 v d B) (f : Fresh P1 H B) (h : seqD d = some ds) :
    (∃ a, v = .ref a ∧ (∃ xs, SqL G.K H1 a xs) ∧ ∃ Src P2, ItOk G false (Itl G.K a) ds Src ∧ Src P2 H1 ∧ Ext P H P2 H1 []) ∨ ∃ a, v = .ref a ∧ (∃ xs, SqT G.K H1 a xs) ∧ ∃ Src P2, ItOk G false (Itt G.K a) ds Src ∧ Src P2 H1 ∧ Ext P H P2 H1 [] := by
  cases r with
  | @tup a xs ds0 A0 q r =>
    simp only [seqD] at h
    split at h
    · rename_i c
      cases h
      exact .inr ⟨a, rfl, ⟨xs, e.und.seqT q⟩, _, P1, it_tup, ⟨q, r.nil_of c⟩, e⟩
    · cases h
  | @lstF a xs ds0 q r =>
    simp only [seqD] at h
    split at h
    · rename_i c
      cases h
      exact .inl ⟨a, rfl, ⟨xs, e.und.seqL (SqL.of q)⟩, _, P1, it_list, ⟨q, r⟩, e⟩
    · cases h
  | @lstO a xs ds0 A0 q r =>
    simp only [seqD] at h
    split at h
    · rename_i c
      cases h
      have r' := r.nil_of c
      have o : ∀ b ∈ [a], P1 b = none := fun b hb => by
        have hb : b = a := by simpa using hb
        subst hb
        exact (f.2 b List.mem_cons_self).2
      have g := give_ext (A := [a]) e.und o
      refine .inl ⟨a, rfl, ⟨xs, SqL.of q⟩, _, give P1 H1 [a], it_list, ⟨by rw [give_in (by simp)]; exact q, r'.mono g.same (by simp)⟩, ?_⟩
      refine ⟨e.same.trans g.same, g.und, e.keep, e.lck, fun b w q => ?_⟩
      rcases g.new b w q with z | z | z
      · exact e.new b w z
      · exact .inr (.inl (e.free st.und z))
      · have hb : b = a := by simpa using z
        subst hb
        exact .inr (.inl (f.2 b List.mem_cons_self).1)
    · cases h
  | @scr a ns q =>
    simp only [seqD] at h
    cases h
    exact .inl ⟨a, rfl, ⟨_, e.und.seqL q⟩, _, P1, it_scr, q, e⟩
  | _ => simp [seqD] at h
theorem i_seq {bor : Bool} {tg : Expr} (h : EOk X W e S) : IOk X W bor tg e (sSeq S) := ⟨PI.imp (PI.or (pi_list h.pe) (pi_tup h.pe)) fun σ H R ⟨P, ρ, A, st, q⟩ => by
  unfold sSeq at q
  cases hs : S ρ with
  | bad => simp only [hs, Res.bind] at q
  | exc x => exact .inl ⟨P, ρ, A, st, by rw [hs]; simp only [hs, Res.bind] at q; exact q⟩
  | ok d =>
    simp only [hs, Res.bind] at q
    cases hd : seqD d with
    | none => simp only [hd, opt] at q
    | some ds =>
      simp only [hd, opt] at q
      by_cases ht : ∃ es, d = .tup es
      · refine .inr ⟨P, ρ, A, st, ?_⟩
        rw [hs]
        intro v P1 H1 B e1 r f
        rcases seq_src st e1 r f hd with ⟨a, rfl, ⟨xs, hx⟩, Src, P2, it, sr, ex⟩ | ⟨a, rfl, hx, Src, P2, it, sr, ex⟩
        · obtain ⟨es, rfl⟩ := ht
          cases r with
          | @tup a' xs' ds0 A0 q' r' =>
            simp only [seqD] at hd
            split at hd
            · rename_i c
              cases hd
              exact ⟨_, rfl, ⟨_, e1.und.seqT q'⟩, q _ P1 H1 _ it_tup.any ⟨q', r'.nil_of c⟩ e1⟩
            · cases hd
        · exact ⟨a, rfl, hx, q _ P2 H1 Src it.any sr ex⟩
      · refine .inl ⟨P, ρ, A, st, ?_⟩
        rw [hs]
        intro v P1 H1 B e1 r f
        rcases seq_src st e1 r f hd with ⟨a, rfl, hx, Src, P2, it, sr, ex⟩ | ⟨a, rfl, ⟨xs, hx⟩, Src, P2, it, sr, ex⟩
        · exact ⟨a, rfl, hx, q _ P2 H1 Src it.any sr ex⟩
        · cases r with
          | tup _ _ => exact absurd ⟨_, rfl⟩ ht
          | @lstF a' xs' ds0 q' r' =>
            simp only [seqD] at hd
            split at hd
            · rename_i c
              cases hd
              exact ⟨_, rfl, ⟨_, e1.und.seqL (SqL.of q')⟩, q _ P1 H1 _ it_list.any ⟨q', r'⟩ e1⟩
            · cases hd
          | @lstO a' xs' ds0 A0 q' r' =>
            simp only [seqD] at hd
            split at hd
            · rename_i c
              cases hd
              have r2 := r'.nil_of c
              have o : ∀ b ∈ [a], P1 b = none := fun b hb => by
                have hb : b = a := by simpa using hb
                subst hb
                exact (f.2 b List.mem_cons_self).2
              have g := give_ext (A := [a]) e1.und o
              refine ⟨a, rfl, ⟨_, SqL.of q'⟩, q _ (give P1 H1 [a]) H1 _ it_list.any ⟨by rw [give_in (by simp)]; exact q', r2.mono g.same (by simp)⟩ ⟨e1.same.trans g.same, g.und, e1.keep, e1.lck, fun b w q => ?_⟩⟩
              rcases g.new b w q with z | z | z
              · exact e1.new b w z
              · exact .inr (.inl (e1.free st.und z))
              · have hb : b = a := by simpa using z
                subst hb
                exact .inr (.inl (f.2 b List.mem_cons_self).1)
            · cases hd
          | @scr a' ns q' =>
            simp only [seqD] at hd
            cases hd
            exact ⟨_, rfl, ⟨_, e1.und.seqL q'⟩, q _ P1 H1 _ it_scr.any q' e1⟩
          | _ => simp [seqD] at hd⟩
end
end RL

/-! RL: borrowed lists, ranges, enumerate, zip; list comprehensions. -/
namespace RL
open PySem PySem.Spec PyProof.Rows L2
section
variable {X : Cx} {W : WX} {e a b : Expr} {pos : Pos} {Sa Sb S : Env → Res D}
/-- a list that a name owns, walked within an expression -/
theorem i_seqB {tg : Expr} (h : BOk X W e S) : IOk X W true tg e (sSeq S) := ⟨PI.imp (PI.or (pi_list h.pe) (pi_tup h.pe)) fun σ H R ⟨P, ρ, A, st, q⟩ => by
  unfold sSeq at q
  cases hs : S ρ with
  | bad => simp only [hs, Res.bind] at q
  | exc x => exact .inl ⟨P, ρ, A, st, by rw [hs]; simp only [hs, Res.bind] at q; exact q⟩
  | ok d =>
    simp only [hs, Res.bind] at q
    cases hd : seqD d with
    | none => simp only [hd, opt] at q
    | some ds =>
      simp only [hd, opt] at q
      by_cases ht : ∃ es, d = .tup es
      · obtain ⟨es, rfl⟩ := ht
        refine .inr ⟨P, ρ, A, st, ?_⟩
        rw [hs]
        intro v P1 H1 B e1 r f
        cases r with
        | @tup a' xs' ds0 A0 q' r' =>
          simp only [seqD] at hd
          split at hd
          · rename_i c
            cases hd
            exact ⟨_, rfl, ⟨_, e1.und.seqT q'⟩, q _ P1 H1 _ it_tup.any ⟨q', r'.nil_of c⟩ e1⟩
          · cases hd
      · refine .inl ⟨P, ρ, A, st, ?_⟩
        rw [hs]
        intro v P1 H1 B e1 r f
        cases r with
        | tup _ _ => exact absurd ⟨_, rfl⟩ ht
        | @lstF a' xs' ds0 q' r' =>
          simp only [seqD] at hd
          split at hd
          · rename_i c
            cases hd
            exact ⟨_, rfl, ⟨_, e1.und.seqL (SqL.of q')⟩, q _ P1 H1 _ it_list.any ⟨q', r'⟩ e1⟩
          · cases hd
        | @lstO a' xs' ds0 A0 q' r' =>
          simp only [seqD] at hd
          split at hd
          · rename_i c
            cases hd
            exact ⟨_, rfl, ⟨_, SqL.of q'⟩, q _ P1 H1 _ it_listB ⟨q', f _ List.mem_cons_self, r'.nil_of c⟩ e1⟩
          · cases hd
        | @scr a' ns q' =>
          simp only [seqD] at hd
          cases hd
          exact ⟨_, rfl, ⟨_, e1.und.seqL q'⟩, q _ P1 H1 _ it_scr.any q' e1⟩
        | _ => simp [seqD] at hd⟩
/-! ### range -/
def ups (lo : Int) (n : Nat) : List D := (List.range n).map fun (k : Nat) => D.int (lo + (k : Int))
theorem ups_len (lo : Int) (n : Nat) : (ups lo n).length = n := by simp [ups]
theorem it_rng {G : Gd} {lo : Int} {n : Nat} : ItOk G false (Itr lo n) (ups lo n) fun _ _ => True where
  stay := fun _ _ _ _ _ _ _ _ _ => trivial
  go := fun i P H u _ hi => by
    rw [ups_len] at hi
    refine ⟨hi, fun x H' hy => ?_⟩
    obtain ⟨e, y⟩ := hy
    subst e y
    exact ⟨P, .int (lo + i), Ext.refl u, by simp [ups, hi], .int _⟩
  stop := fun i P H u _ hi => by rw [ups_len] at hi; exact hi
def inR (i : Int) : Bool := decide (-(2 ^ 62) ≤ i) && decide (i < 2 ^ 62)
def rng1 : List D → Option (List D)
  | [.int j] => if inR j = true then some (ups 0 j.toNat) else none
  | _ => none
def rng2 : List D → Option (List D)
  | [.int i, .int j] => if inR i = true ∧ inR j = true then some (ups i (j - i).toNat) else none
  | _ => none
def sI (f : List D → Option (List D)) (S : Env → Res (List D)) : Env → Res (List D) := fun ρ => (S ρ).bind fun ds => opt (f ds)
theorem i_rng1 {bor : Bool} {tg : Expr} {p : Pos} {T : Env → Res (List D)} (hm : X.mg "range" = none) (ha : ABOk X W [a] T) (hg : Gl X "range" := by rfl) (hs : starEach [a] X.env = [(false, eval a X.env)] := by rfl) : IOk X W bor tg (.Call (.Name "range" p) [a] [] pos) (sI rng1 T) :=
  ⟨PI.imp (pi_range1 hg hm ha.pa hs) fun σ H R ⟨P, ρ, A, st, h⟩ => ⟨P, ρ, A, st, by
    unfold sI at h
    cases ht : T ρ with
    | bad => simp only [ht, Res.bind] at h
    | exc x => simp only [ht, Res.bind] at h; exact h
    | ok ds =>
      simp only [ht, Res.bind] at h
      intro vs P1 H1 B e1 r o
      cases r with
      | nil => simp [rng1, opt] at h
      | cons r1 r2 =>
        cases r2 with
        | cons _ _ => simp [rng1, opt] at h
        | nil =>
          cases r1 with
          | int j =>
            simp only [rng1] at h
            by_cases c : inR j = true
            · rw [if_pos c] at h
              simp only [inR, Bool.and_eq_true, decide_eq_true_eq] at c
              exact ⟨j, rfl, c.1, c.2, h _ P1 H1 _ it_rng.any trivial e1⟩
            · rw [if_neg c] at h; exact h.elim
          | _ => simp [rng1, opt] at h⟩⟩
theorem i_rng2 {bor : Bool} {tg : Expr} {p : Pos} {T : Env → Res (List D)} (hm : X.mg "range" = none) (ha : ABOk X W [a, b] T) (hg : Gl X "range" := by rfl) (hs : starEach [a, b] X.env = [(false, eval a X.env), (false, eval b X.env)] := by rfl) (hs2 : starEach [b] X.env = [(false, eval b X.env)] := by rfl) :
    IOk X W bor tg (.Call (.Name "range" p) [a, b] [] pos) (sI rng2 T) :=
  ⟨PI.imp (pi_range2 hg hm ha.pa hs hs2) fun σ H R ⟨P, ρ, A, st, h⟩ => ⟨P, ρ, A, st, by
    unfold sI at h
    cases ht : T ρ with
    | bad => simp only [ht, Res.bind] at h
    | exc x => simp only [ht, Res.bind] at h; exact h
    | ok ds =>
      simp only [ht, Res.bind] at h
      intro vs P1 H1 B e1 r o
      cases r with
      | nil => simp [rng2, opt] at h
      | cons r1 r2 =>
        cases r2 with
        | nil => simp [rng2, opt] at h
        | cons r2 r3 =>
          cases r3 with
          | cons _ _ => simp [rng2, opt] at h
          | nil =>
            cases r1 <;> first | exact (show False from h).elim | skip
            cases r2 <;> first | exact (show False from h).elim | skip
            rename_i i j
            simp only [rng2] at h
            by_cases c : inR i = true ∧ inR j = true
            · rw [if_pos c] at h
              simp only [inR, Bool.and_eq_true, decide_eq_true_eq] at c
              exact ⟨i, j, rfl, ⟨c.1.1, c.1.2, c.2.1, c.2.2⟩, h _ P1 H1 _ it_rng.any trivial e1⟩
            · rw [if_neg c] at h; exact h.elim⟩⟩
def upsC (lo c : Int) (n : Nat) : List D := (List.range n).map fun (k : Nat) => D.int (lo + (k : Int) * c)
theorem it_rngC {G : Gd} {lo c : Int} {n : Nat} : ItOk G false (Itc lo c n) (upsC lo c n) fun _ _ => True where
  stay := fun _ _ _ _ _ _ _ _ _ => trivial
  go := fun i P H u _ hi => by
    have hi : i < n := by simpa [upsC] using hi
    refine ⟨hi, fun x H' hy => ?_⟩
    obtain ⟨e, y⟩ := hy
    subst e y
    exact ⟨P, .int (lo + i * c), Ext.refl u, by simp [upsC, hi], .int _⟩
  stop := fun i P H u _ hi => by
    show n ≤ i
    simpa [upsC] using hi
def rng3 : List D → Option (List D)
  | [.int i, .int j, .int c] => if c ≠ 0 ∧ c.natAbs < 1073741824 ∧ Builtin.Range.small i j c = true then some (upsC i c (Builtin.Range.rangeSize i j c).toNat) else none
  | _ => none
theorem rsize_nat {i j c : Int} : Builtin.Range.rangeSize i j c = ((Builtin.Range.rangeSize i j c).toNat : Int) := by
  have h : 0 ≤ Builtin.Range.rangeSize i j c := by
    unfold Builtin.Range.rangeSize
    by_cases hc : c > 0
    · rw [if_pos hc]
      by_cases hl : i < j
      · rw [if_pos hl]
        have h := Int.ediv_nonneg (a := j - i - 1) (b := c) (by omega) (by omega)
        omega
      · rw [if_neg hl]; exact Int.le_refl 0
    · rw [if_neg hc]
      by_cases hl : i > j
      · rw [if_pos hl]
        have h := Int.ediv_nonneg (a := i - j - 1) (b := -c) (by omega) (by omega)
        omega
      · rw [if_neg hl]; exact Int.le_refl 0
  omega
theorem i_rng3 {bor : Bool} {tg c : Expr} {p : Pos} {T : Env → Res (List D)} (hm : X.mg "range" = none) (ha : ABOk X W [a, b, c] T) (hg : Gl X "range" := by rfl)
    (hs : starEach [a, b, c] X.env = (false, eval a X.env) :: starEach [b, c] X.env := by rfl) (hpl : (backTo pos (starEach [b, c] X.env)).any (·.1) = false := by rfl) :
    IOk X W bor tg (.Call (.Name "range" p) [a, b, c] [] pos) (sI rng3 T) :=
  ⟨PI.imp (pi_range3 hg hm ha.pa hs hpl) fun σ H R ⟨P, ρ, A, st, h⟩ => ⟨P, ρ, A, st, by
    unfold sI at h
    cases ht : T ρ with
    | bad => simp only [ht, Res.bind] at h
    | exc x => simp only [ht, Res.bind] at h; exact h
    | ok ds =>
      simp only [ht, Res.bind] at h
      intro vs P1 H1 B e1 r o
      cases r with
      | nil => simp [rng3, opt] at h
      | cons r1 r2 =>
        cases r2 with
        | nil => simp [rng3, opt] at h
        | cons r2 r3 =>
          cases r3 with
          | nil => simp [rng3, opt] at h
          | cons r3 r4 =>
            cases r4 with
            | cons _ _ => simp [rng3, opt] at h
            | nil =>
              cases r1 <;> first | exact (show False from h).elim | skip
              cases r2 <;> first | exact (show False from h).elim | skip
              cases r3 <;> first | exact (show False from h).elim | skip
              rename_i i j c
              simp only [rng3] at h
              by_cases k : c ≠ 0 ∧ c.natAbs < 1073741824 ∧ Builtin.Range.small i j c = true
              · rw [if_pos k] at h
                exact ⟨i, j, c, _, rfl, ⟨k.1, k.2.1, k.2.2, rsize_nat⟩, h _ P1 H1 _ it_rngC.any trivial e1⟩
              · rw [if_neg k] at h; exact h.elim⟩⟩
/-! ### enumerate, zip -/
def lstD : D → Option (List D)
  | .lst _ ds => if cleanL ds = true then some ds else none
  | .scr ns => some (ns.map .int)
  | _ => none
def pairsI : Nat → List D → List D
  | _, [] => []
  | i, d :: ds => .tup [.int (i : Int), d] :: pairsI (i + 1) ds
theorem pairsI_get : ∀ {ds : List D} {k i : Nat} {d : D}, ds[i]? = some d → (pairsI k ds)[i]? = some (.tup [.int ((k + i : Nat) : Int), d])
  | [], _, _, _, h => by simp at h
  | e :: ds, k, 0, d, h => by simp at h; subst h; simp [pairsI]
  | e :: ds, k, i + 1, d, h => by
    have := pairsI_get (ds := ds) (k := k + 1) (i := i) (d := d) (by simpa using h)
    simp only [pairsI, List.getElem?_cons_succ]
    rw [this]
    congr 4
    omega
theorem pairsI_len : ∀ {ds : List D} {k : Nat}, (pairsI k ds).length = ds.length
  | [], _ => rfl
  | _ :: ds, k => by simp [pairsI, pairsI_len (ds := ds)]
/-- a list of ours that stays, by what stands in P -/
def StayL (G : Gd) (P H : Hp) (a : Addr) (xs : List V) (ds : List D) : Prop := SqL G.K P a xs ∧ RelL G P H xs ds []
theorem it_enum {G : Gd} {a : Addr} {xs : List V} {ds : List D} : ItOk G false (Ite G.K a) (pairsI 0 ds) fun P H => StayL G P H a xs ds where
  stay := fun P H P' H' A _ _ e ⟨h, r⟩ => ⟨Same.seq e.same h, r.mono e.same (by simp)⟩
  go := fun i P H u ⟨h, r⟩ hi => by
    rw [pairsI_len] at hi
    obtain ⟨v, d, h1, h2, h3⟩ := r.at? hi
    refine ⟨⟨xs, v, u.seqL h, h1⟩, fun x H' hy => ?_⟩
    obtain ⟨T, w, e1, e2, e3, y⟩ := hy
    subst e1 e3
    have q := y _ (u.seqL h)
    rw [h1] at q
    cases q
    have ex := ext_fix (o := .tup [.int (i : Nat), v]) u e2
    refine ⟨_, _, ex, pairsI_get h2, .tup (SqT.of upd_same) (.cons (A := []) (B := []) ?_ (.cons (A := []) (B := []) (h3.mono ex.same (by simp)) .nil))⟩
    rw [Nat.zero_add]
    exact .int _
  stop := fun i P H u ⟨h, r⟩ hi => ⟨xs, u.seqL h, by rw [r.length, ← pairsI_len (k := 0)]; exact hi⟩
/-- a list that comes now: it stays -/
theorem list_src {G : Gd} {P H P1 H1 : Hp} {B : List Addr} {d : D} {v : V} {ds : List D} (un : Under P H) (e : Ext P H P1 H1 []) (r : Rel G P1 H1 v d B) (f : Fresh P1 H B) (h : lstD d = some ds) :
    ∃ a xs P2, v = .ref a ∧ StayL G P2 H1 a xs ds ∧ Ext P H P2 H1 [] ∧ Same P1 P2 ∧ ∀ b w, P2 b = some w → P1 b = some w ∨ b ∈ B := by
  cases r with
  | @lstF a xs ds0 q r =>
    simp only [lstD] at h
    split at h
    · cases h
      exact ⟨a, xs, P1, rfl, ⟨SqL.of q, r⟩, e, Same.refl _, fun b w q => .inl q⟩
    · cases h
  | @lstO a xs ds0 A0 q r =>
    simp only [lstD] at h
    split at h
    · rename_i c
      cases h
      have r' := r.nil_of c
      have o : ∀ b ∈ [a], P1 b = none := fun b hb => by
        have hb : b = a := by simpa using hb
        subst hb
        exact (f.2 b List.mem_cons_self).2
      have g := give_ext (A := [a]) e.und o
      refine ⟨a, xs, give P1 H1 [a], rfl, ⟨SqL.of (by rw [give_in (by simp)]; exact q), r'.mono g.same (by simp)⟩, ⟨e.same.trans g.same, g.und, e.keep, e.lck, fun b w q => ?_⟩, g.same, fun b w q => ?_⟩
      · rcases g.new b w q with z | z | z
        · exact e.new b w z
        · exact .inr (.inl (e.free un z))
        · have hb : b = a := by simpa using z
          subst hb
          exact .inr (.inl (f.2 b List.mem_cons_self).1)
      · by_cases hb : b = a
        · subst hb; exact .inr List.mem_cons_self
        · rw [give_out (by simpa using hb)] at q; exact .inl q
    · cases h
  | @scr a ns q =>
    simp only [lstD] at h
    cases h
    exact ⟨a, _, P1, rfl, ⟨q, ints_rel ns⟩, e, Same.refl _, fun b w q => .inl q⟩
  | _ => simp [lstD, opt] at h
def enum1 : List D → Option (List D)
  | [d] => (lstD d).map (pairsI 0)
  | _ => none
theorem i_enum {bor : Bool} {p tpos : Pos} {elts : List Expr} {kk : Nat} {T : Env → Res (List D)} (hm : X.mg "enumerate" = none) (ha : AOk X W [e] T) (hg : Gl X "enumerate" := by rfl) (hs : starEach [e] X.env = [(false, eval e X.env)] := by rfl) :
    IOk X W bor (.Tuple elts kk tpos) (.Call (.Name "enumerate" p) [e] [] pos) (sI enum1 T) :=
  ⟨PI.imp (pi_enum hg hm ha.pa hs) fun σ H R ⟨P, ρ, A, st, h⟩ => ⟨P, ρ, A, st, by
    unfold sI at h
    cases ht : T ρ with
    | bad => simp only [ht, Res.bind] at h
    | exc x => simp only [ht, Res.bind] at h; exact h
    | ok ds =>
      simp only [ht, Res.bind] at h
      intro vs P1 H1 B e1 r f
      cases r with
      | nil => simp [enum1, opt] at h
      | @cons v d A1 vs ds B1 r1 r2 =>
        cases r2 with
        | cons _ _ => simp [enum1, opt] at h
        | nil =>
          simp only [enum1] at h
          cases hl : lstD d with
          | none => simp only [hl, Option.map, opt] at h
          | some es =>
            simp only [hl, Option.map, opt] at h
            rw [List.append_nil] at f
            obtain ⟨a, xs, P2, rfl, sl, ex, _, _⟩ := list_src st.und e1 r1 f hl
            exact ⟨a, xs, rfl, ex.und.seqL sl.1, h _ P2 H1 _ it_enum.any sl ex⟩⟩⟩
def zipD : List D → List D → List D
  | d :: ds, e :: es => .tup [d, e] :: zipD ds es
  | _, _ => []
theorem zipD_get : ∀ {ds es : List D} {i : Nat} {d e : D}, ds[i]? = some d → es[i]? = some e → (zipD ds es)[i]? = some (.tup [d, e])
  | [], _, _, _, _, h, _ => by simp at h
  | _ :: _, [], _, _, _, _, h => by simp at h
  | a :: ds, b :: es, 0, d, e, h, h2 => by simp at h h2; subst h h2; rfl
  | a :: ds, b :: es, i + 1, d, e, h, h2 => by
    simp only [zipD, List.getElem?_cons_succ]
    exact zipD_get (by simpa using h) (by simpa using h2)
theorem zipD_len : ∀ {ds es : List D}, (zipD ds es).length = min ds.length es.length
  | [], _ => by simp [zipD]
  | _ :: _, [] => by simp [zipD]
  | a :: ds, b :: es => by simp only [zipD, List.length_cons, zipD_len (ds := ds) (es := es)]; omega
theorem it_zip {G : Gd} {a b : Addr} {xs ys : List V} {ds es : List D} : ItOk G false (Itz G.K a b) (zipD ds es) fun P H => StayL G P H a xs ds ∧ StayL G P H b ys es where
  stay := fun P H P' H' A _ _ e ⟨⟨h, r⟩, h2, r2⟩ => ⟨⟨Same.seq e.same h, r.mono e.same (by simp)⟩, Same.seq e.same h2, r2.mono e.same (by simp)⟩
  go := fun i P H u ⟨⟨h, r⟩, h', r'⟩ hi => by
    rw [zipD_len] at hi
    obtain ⟨v, d, h1, h2, h3⟩ := r.at? (i := i) (by omega)
    obtain ⟨v', d', h1', h2', h3'⟩ := r'.at? (i := i) (by omega)
    refine ⟨⟨xs, ys, v, v', u.seqL h, u.seqL h', h1, h1'⟩, fun x H' hy => ?_⟩
    obtain ⟨T, w, w', e1, e2, e3, y, y'⟩ := hy
    subst e1 e3
    have q := y _ (u.seqL h)
    rw [h1] at q
    cases q
    have q := y' _ (u.seqL h')
    rw [h1'] at q
    cases q
    have ex := ext_fix (o := .tup [v, v']) u e2
    exact ⟨_, _, ex, zipD_get h2 h2', .tup (SqT.of upd_same) (.cons (A := []) (B := []) (h3.mono ex.same (by simp)) (.cons (A := []) (B := []) (h3'.mono ex.same (by simp)) .nil))⟩
  stop := fun i P H u ⟨⟨h, r⟩, h', r'⟩ hi => by
    rw [zipD_len] at hi
    refine ⟨xs, ys, u.seqL h, u.seqL h', ?_⟩
    rw [r.length, r'.length]
    omega
def zip2 : List D → Option (List D)
  | [d, e] => (lstD d).bind fun ds => (lstD e).map (zipD ds)
  | _ => none
theorem i_zip {bor : Bool} {p tpos : Pos} {elts : List Expr} {kk : Nat} {T : Env → Res (List D)} (hm : X.mg "zip" = none) (ha : AOk X W [a, b] T) (hg : Gl X "zip" := by rfl) (hs : starEach [a, b] X.env = (false, eval a X.env) :: starEach [b] X.env := by rfl) (hpl : (backTo pos (starEach [b] X.env)).any (·.1) = false := by rfl) :
    IOk X W bor (.Tuple elts kk tpos) (.Call (.Name "zip" p) [a, b] [] pos) (sI zip2 T) :=
  ⟨PI.imp (pi_zip hg hm ha.pa hs hpl) fun σ H R ⟨P, ρ, A, st, h⟩ => ⟨P, ρ, A, st, by
    unfold sI at h
    cases ht : T ρ with
    | bad => simp only [ht, Res.bind] at h
    | exc x => simp only [ht, Res.bind] at h; exact h
    | ok ds =>
      simp only [ht, Res.bind] at h
      intro vs P1 H1 B e1 r f
      cases r with
      | nil => simp [zip2, opt] at h
      | @cons v d A1 vs ds B1 r1 r2 =>
        cases r2 with
        | nil => simp [zip2, opt] at h
        | @cons v' d' A2 vs ds B2 r2 r3 =>
          cases r3 with
          | cons _ _ => simp [zip2, opt] at h
          | nil =>
            simp only [zip2] at h
            cases hl : lstD d with
            | none => simp only [hl, Option.bind, opt] at h
            | some es =>
              cases hl' : lstD d' with
              | none => simp only [hl, hl', Option.bind, Option.map, opt] at h
              | some es' =>
                simp only [hl, hl', Option.bind, Option.map, opt] at h
                rw [List.append_nil] at f
                obtain ⟨n1, n2, n3⟩ := List.nodup_append.mp f.1
                obtain ⟨a, xs, P2, rfl, sl, ex, sm, nw⟩ := list_src st.und e1 r1 ⟨n1, fun b hb => f.2 b (List.mem_append_left _ hb)⟩ hl
                have r2' : Rel (gd X) P2 H1 v' d' A2 := r2.mono sm fun _ _ => rfl
                have f2 : Fresh P2 H A2 := ⟨n2, fun b hb => ⟨(f.2 b (List.mem_append_right _ hb)).1, by
                  cases q : P2 b with
                  | none => rfl
                  | some w =>
                    rcases nw b w q with z | z
                    · rw [(f.2 b (List.mem_append_right _ hb)).2] at z; cases z
                    · exact absurd rfl (n3 b z b hb)⟩⟩
                obtain ⟨b, ys, P3, rfl, sl', ex', sm', _⟩ := list_src st.und ex r2' f2 hl'
                have sl2 : StayL (gd X) P3 H1 a xs es := ⟨Same.seq sm' sl.1, sl.2.mono sm' (by simp)⟩
                exact ⟨a, b, xs, ys, rfl, ex'.und.seqL sl2.1, ex'.und.seqL sl'.1, h _ P3 H1 _ it_zip.any ⟨sl2, sl'⟩ ex'⟩⟩⟩
end
end RL

/-! RL: list comprehensions. -/
namespace RL
open PySem PySem.Spec PyProof.Rows L2
def lcRun (f : D → Res (Option D)) : List D → Option (List D)
  | [] => some []
  | d :: ds => match f d with
    | .ok none => lcRun f ds
    | .ok (some e) => (lcRun f ds).map (e :: ·)
    | _ => none
def wipeE (ρ : Env) : List Nat → Env
  | [] => ρ
  | v :: vs => (wipeE ρ vs).set v none
def lcOne (t : Tg) (vs : List Nat) (T : Env → Res Bool) (E : Env → Res D) (ρ : Env) (d : D) : Res (Option D) := match t.set d (wipeE ρ vs) with
  | none => .bad
  | some ρ' => (T ρ').bind fun b => if b = true then (E ρ').bind fun e => .ok (some e) else .ok none
def sLc (Si : Env → Res (List D)) (t : Tg) (vs : List Nat) (T : Env → Res Bool) (E : Env → Res D) : Env → Res D := fun ρ => (Si ρ).bind fun ds => if ds.length ≤ sizeLine then (match lcRun (lcOne t vs T E ρ) ds with
  | some es => .ok (.lst true es)
  | none => .bad) else .bad
abbrev WF : WX := fun _ _ _ _ => False
theorem wipe_none {σ : Sl} {j : Nat} : ∀ {vs : List Nat}, j ∈ vs → j < σ.length → (wipe σ vs)[j]? = some none
  | [], h, _ => by simp at h
  | v :: vs, h, hl => by
    unfold wipe
    by_cases e : v = j
    · subst e
      rw [List.getElem?_set_self (by rw [wipe_length]; exact hl)]
    · rw [List.getElem?_set_ne e]
      exact wipe_none ((List.mem_cons.mp h).resolve_left fun z => e z.symm) hl
theorem wipe_eq {σ σ' : Sl} {vs : List Nat} (hl : σ'.length = σ.length) (h : ∀ j, j ∉ vs → σ'[j]? = σ[j]?) : wipe σ' vs = wipe σ vs := by
  apply List.ext_getElem?
  intro j
  by_cases hj : j ∈ vs
  · by_cases hx : j < σ.length
    · rw [wipe_none hj hx, wipe_none hj (by omega)]
    · rw [List.getElem?_eq_none (by rw [wipe_length]; omega), List.getElem?_eq_none (by rw [wipe_length]; omega)]
  · rw [wipe_out hj, wipe_out hj, h j hj]
section
variable {G : Gd} {P P' H H' : Hp}
theorem EnvRel.wipe {σ : Sl} {ρ : Env} {A : List Addr} (r : EnvRel G P H σ ρ A) : ∀ vs : List Nat, ∃ C, (∀ b ∈ C, b ∈ A) ∧ (A.Nodup → C.Nodup) ∧ EnvRel G P H (wipe σ vs) (wipeE ρ vs) C
  | [] => ⟨A, fun _ h => h, fun h => h, r⟩
  | v :: vs => by
    obtain ⟨C, c1, c2, c3⟩ := EnvRel.wipe r vs
    by_cases hv : v < (wipeE ρ vs).length
    · obtain ⟨B, C', p, q, _⟩ := c3.out hv
      refine ⟨C', fun b hb => c1 b (p.symm.subset (List.mem_append_right _ hb)), fun n => ((p.nodup_iff.mp (c2 n)).sublist (List.sublist_append_right _ _)), ?_⟩
      show EnvRel G P H ((L2.wipe σ vs).set v none) ((wipeE ρ vs).set v none) C'
      exact q.anyAt (by simp [hv])
    · refine ⟨C, c1, c2, ?_⟩
      show EnvRel G P H ((L2.wipe σ vs).set v none) ((wipeE ρ vs).set v none) C
      have hl := c3.length
      rw [List.set_eq_of_length_le (by omega), List.set_eq_of_length_le (by omega)]
      exact c3
theorem StRel.wipe {σ : Sl} {ρ : Env} {A : List Addr} (st : StRel G P H σ ρ A) (vs : List Nat) : ∃ C, StRel G P H (L2.wipe σ vs) (wipeE ρ vs) C := by
  obtain ⟨C, c1, c2, c3⟩ := st.env.wipe vs
  exact ⟨C, st.und, c3, c2 st.nd, fun b hb => st.off b (c1 b hb), st.mks⟩
theorem RelL.snoc {v : V} {d : D} {B : List Addr} (r : Rel G P H v d B) : ∀ {xs : List V} {ds : List D} {A : List Addr}, RelL G P H xs ds A → RelL G P H (xs ++ [v]) (ds ++ [d]) (A ++ B)
  | _, _, _, .nil => by
    have q : RelL G P H [v] [d] (B ++ []) := .cons r .nil
    rw [List.append_nil] at q
    exact q
  | _, _, _, .cons (A := A1) (B := B1) r1 t => by
    rw [List.append_assoc]
    exact .cons r1 (RelL.snoc r t)
/-- our own new object is changed -/
theorem Ext.updNew {a : Addr} {o : HO} (e : Ext P H P' H' []) (h : H a = none) (h' : P' a = none) : Ext P H P' (upd H' a o) [] where
  same := e.same
  und := fun b w q => by
    have hb : b ≠ a := fun z => by subst z; rw [h'] at q; cases q
    rw [upd_ne hb]; exact e.und b w q
  keep := fun b w q n m => by rw [upd_ne (ne_of_none q h)]; exact e.keep b w q n m
  lck := fun b o u q => by rw [upd_ne (ne_of_none q h)]; exact e.lck b o u q
  new := e.new
end
section
variable {X : Cx} {W : WX}
theorem lc_imp {bor : Bool} {Si : Env → Res (List D)} {t : Tg} {vs : List Nat} {T : Env → Res Bool} {E : Env → Res D} (ht : ∀ i ∈ t.slots, i ∈ vs) {σ : Sl} {H : Hp} {Q : VK} (h : tE (gd X) W (sLc Si t vs T E) σ H Q) :
    tLc (tI (gd X) W bor Si) (tG (gd X) t) (tT (gd X) WF T) (tE (gd X) WF E) vs σ H Q := by
  obtain ⟨P, ρ, A, st, h⟩ := h
  refine ⟨P, ρ, A, st, ?_⟩
  unfold sLc at h
  cases hs : Si ρ with
  | bad => simp only [hs, Res.bind] at h
  | exc x => simp only [hs, Res.bind] at h; exact h
  | ok ds =>
    simp only [hs, Res.bind] at h
    by_cases hz : ds.length ≤ sizeLine
    · rw [if_pos hz] at h
      cases hr : lcRun (lcOne t vs T E ρ) ds with
      | none => rw [hr] at h; exact h.elim
      | some es =>
        rw [hr] at h
        intro J P1 H1 Src it sr e1 Dn hD
        have hP1 : P1 Dn = none := e1.und.free hD
        -- the state at turn i
        let Iv : Nat → Hp → Prop := fun i Hc => i ≤ ds.length ∧ ∃ Pc acc xs rest B, Ext P1 H1 Pc Hc [] ∧ Pc Dn = none ∧ Hc Dn = some (.lst xs) ∧ RelL (gd X) Pc Hc xs acc B ∧ lcRun (lcOne t vs T E ρ) (ds.drop i) = some rest ∧ acc ++ rest = es ∧ xs.length ≤ i ∧ Dn ∉ B ∧ B.Nodup ∧ ∀ b ∈ B, H1 b = none ∧ Pc b = none
        refine ⟨fun i m Hc => m = ds.length - i ∧ Iv i Hc, ⟨ds.length, by simp, Nat.zero_le _, P1, [], [], es, [], ext_own e1.und hD, hP1, upd_same, .nil, by simpa using hr, rfl, Nat.le_refl _, by simp, List.nodup_nil, fun b hb => by simp at hb⟩, ?_⟩
        rintro i m Hc ⟨rfl, hi, Pc, acc, xs, rest, B, ec, pD, hc, rl, hrest, hacc, hxl, nD, ndB, fB⟩
        have sc : Src Pc Hc := it.stay P1 H1 Pc Hc [] (fun _ => rfl) e1.und ec sr
        by_cases hlt : i < ds.length
        · right
          obtain ⟨hgo, hy⟩ := it.go i Pc Hc ec.und sc hlt
          refine ⟨hgo, Iv (i + 1), fun H' q => ⟨ds.length - (i + 1), by omega, rfl, q⟩, fun x H' y => ?_⟩
          obtain ⟨P2, d, e2, hd, rd⟩ := hy x H' y
          have hdrop : ds.drop i = d :: ds.drop (i + 1) := by
            rw [List.drop_eq_getElem_cons hlt]
            congr 1
            rw [List.getElem?_eq_getElem hlt] at hd
            exact Option.some.inj hd
          rw [hdrop] at hrest
          simp only [lcRun] at hrest
          have e12 := ec.trans e1.und e2
          obtain ⟨C, sw⟩ := (st.ext (e1.trans st.und e12)).wipe vs
          have offD : ∀ b ∈ (Dn :: B), ∃ o, Hc b = some o := fun b hb => by
            rcases List.mem_cons.mp hb with rfl | hb
            · exact ⟨_, hc⟩
            · exact rl.at b hb
          have offP : ∀ b ∈ (Dn :: B), Pc b = none := fun b hb => by
            rcases List.mem_cons.mp hb with rfl | hb
            · exact pD
            · exact (fB b hb).2
          -- what of ours stays, whatever comes
          have keep : ∀ {P3 H3 : Hp}, Ext Pc Hc P3 H3 [] → P3 Dn = none ∧ H3 Dn = some (.lst xs) ∧ RelL (gd X) P3 H3 xs acc B ∧ ∀ b ∈ B, H1 b = none ∧ P3 b = none := fun {P3 H3} e => by
            obtain ⟨k1, k2⟩ := e.own offD offP
            refine ⟨k2 _ List.mem_cons_self, by rw [k1 _ List.mem_cons_self]; exact hc, rl.mono e.same fun b hb => k1 b (List.mem_cons_of_mem _ hb), fun b hb => ⟨(fB b hb).1, k2 b (List.mem_cons_of_mem _ hb)⟩⟩
          cases hset : t.set d (wipeE ρ vs) with
          | none =>
            have : lcOne t vs T E ρ d = .bad := by simp only [lcOne, hset]
            rw [this] at hrest
            cases hrest
          | some ρ' =>
            have hone : lcOne t vs T E ρ d = (T ρ').bind fun b => if b = true then (E ρ').bind fun e => .ok (some e) else .ok none := by simp only [lcOne, hset]
            rw [hone] at hrest
            refine ⟨P2, wipeE ρ vs, C, d, [], sw, rd, by simpa using sw.nd, fun b hb => by simp at hb, ?_⟩
            rw [hset]
            intro σ' A' st' sub hlen hfr
            refine ⟨wipe_eq (by rw [hlen, wipe_length]) (fun j hj => by rw [hfr j fun z => hj (ht j z), wipe_out hj]), P2, ρ', A', st', ?_⟩
            cases hT : T ρ' with
            | bad => simp only [hT, Res.bind] at hrest; cases hrest
            | exc x => simp only [hT, Res.bind] at hrest; cases hrest
            | ok k =>
              intro P3 H3 e3
              cases k with
              | false =>
                simp only [hT, Res.bind, Bool.false_eq_true, if_false] at hrest ⊢
                have e13 := e2.trans ec.und e3
                obtain ⟨k1, k2, k3, k4⟩ := keep e13
                exact ⟨hlt, P3, acc, xs, rest, B, ec.trans e1.und e13, k1, k2, k3, hrest, hacc, by omega, nD, ndB, k4⟩
              | true =>
                simp only [hT, Res.bind, if_true] at hrest ⊢
                refine ⟨P3, ρ', A', st'.ext e3, ?_⟩
                cases hE : E ρ' with
                | bad => simp only [hE] at hrest; cases hrest
                | exc x => simp only [hE] at hrest; cases hrest
                | ok y0 =>
                  simp only [hE] at hrest
                  obtain ⟨rest', hr', rfl⟩ : ∃ r, lcRun (lcOne t vs T E ρ) (ds.drop (i + 1)) = some r ∧ rest = y0 :: r := by
                    cases hq : lcRun (lcOne t vs T E ρ) (ds.drop (i + 1)) with
                    | none => rw [hq] at hrest; cases hrest
                    | some r => rw [hq] at hrest; exact ⟨r, rfl, (Option.some.inj hrest).symm⟩
                  intro v P4 H4 B4 e4 r4 f4
                  have e13 := e2.trans ec.und e3
                  have e14 := e13.trans ec.und e4
                  obtain ⟨j1, j2, j3, j4⟩ := keep e13
                  obtain ⟨k1, k2, k3, k4⟩ := keep e14
                  have e1c := ec.trans e1.und e14
                  have dB4 : ∀ b ∈ B4, b ≠ Dn ∧ b ∉ B := fun b hb => by
                    have hn := (f4.2 b hb).1
                    refine ⟨fun z => ?_, fun z => ?_⟩
                    · subst z; rw [j2] at hn; cases hn
                    · obtain ⟨o, ho⟩ := j3.at b z
                      rw [ho] at hn; cases hn
                  refine ⟨xs, k2, by omega, hlt, P4, acc ++ [y0], xs ++ [v], rest', B ++ B4, e1c.updNew hD k1, k1, upd_same, ?_, hr', by rw [← hacc]; simp, by simp; omega, ?_, ?_, ?_⟩
                  · refine (k3.snoc r4).mono (Same.refl _) fun b hb => upd_ne ?_
                    rcases List.mem_append.mp hb with z | z
                    · exact fun w => nD (w ▸ z)
                    · exact (dB4 b z).1
                  · intro z
                    rcases List.mem_append.mp z with z | z
                    · exact nD z
                    · exact (dB4 _ z).1 rfl
                  · exact List.nodup_append.mpr ⟨ndB, f4.1, fun a ha b hb z => (dB4 b hb).2 (z ▸ ha)⟩
                  · intro b hb
                    rcases List.mem_append.mp hb with z | z
                    · exact k4 b z
                    · exact ⟨(ec.trans e1.und e13).free e1.und (f4.2 b z).1, (f4.2 b z).2⟩
        · left
          have e : i = ds.length := by omega
          subst e
          refine ⟨it.stop _ Pc Hc ec.und sc (Nat.le_refl _), ?_⟩
          rw [List.drop_length] at hrest
          have e0 : rest = [] := (Option.some.inj hrest).symm
          subst e0
          rw [List.append_nil] at hacc
          subst hacc
          refine h _ Pc Hc (Dn :: B) (e1.trans st.und ec) (.lstO hc rl) ⟨List.nodup_cons.mpr ⟨nD, ndB⟩, fun b hb => ?_⟩
          rcases List.mem_cons.mp hb with rfl | hb
          · exact ⟨e1.free st.und hD, pD⟩
          · exact ⟨e1.free st.und (fB b hb).1, (fB b hb).2⟩
    · rw [if_neg hz] at h; exact h.elim
structure TsOk (X : Cx) (W : WX) (ifs : List Expr) (T : Env → Res Bool) : Prop where pts : PTs X ifs (tT (gd X) W T)
theorem PTs.imp {X : Cx} {e : List Expr} {t t' : TT} (h : PTs X e t) (f : ∀ σ H Q, t' σ H Q → t σ H Q) : PTs X e t' := ⟨fun pins s σ H Q I q => h.run pins s σ H Q I (f σ H Q q)⟩
def sYes : Env → Res Bool := fun _ => .ok true
theorem ts_nil : TsOk X W [] sYes := ⟨PTs.imp pts_nil fun σ H Q ⟨P, ρ, A, st, h⟩ => h P H (Ext.refl st.und)⟩
theorem ts_one {c : Expr} {T : Env → Res Bool} (h : TOk X W c T) : TsOk X W [c] T := ⟨pts_one h.pt⟩
variable {bor : Bool} {elt tg iter : Expr} {ifs : List Expr} {scope : Scope} {own : List (Str × Nat)} {pos : Pos} {Si : Env → Res (List D)} {t : Tg} {T : Env → Res Bool} {E : Env → Res D}
/-- [elt for tg in iter if ..] -/
theorem e_lc (hc : X.calm = true) (hN : X.N.Nodup) (hi : IOk X W bor tg iter Si) (ok : BlkOk X.N X.env.scope scope own) (ht : ∀ i ∈ t.slots, i ∈ own.map (·.2))
    (hg : ∀ (s : Shared) (H : Hp) (C : Addr) (cl : List (Str × Addr)) (fp : List Addr), GOk (X.blk s H scope (compEnvC scope cl C X.env) fp) tg t) (hT : ∀ (s : Shared) (H : Hp) (C : Addr) (cl : List (Str × Addr)) (fp : List Addr), TsOk (X.blk s H scope (compEnvC scope cl C X.env) fp) WF ifs T)
    (he : ∀ (s : Shared) (H : Hp) (C : Addr) (cl : List (Str × Addr)) (fp : List Addr), EOk (X.blk s H scope (compEnvC scope cl C X.env) fp) WF elt E) (hs : ∀ x, foldedSetIterable iter X.env x = pure x := by intro _; rfl) :
    EOk X W (.ListComp elt [⟨tg, iter, ifs, 0⟩] scope pos) (sLc Si t (own.map (·.2)) T E) :=
  ⟨PE.imp (pe_lc hc hN hi.pi ok (fun s H C cl fp => (hg s H C cl fp).pg) (fun s H C cl fp => (hT s H C cl fp).pts) (fun s H C cl fp => (he s H C cl fp).pe) hs) fun _ _ _ h => lc_imp (bor := bor) ht h⟩
end
end RL

/-! RL: statements. -/
namespace RL
open PySem PySem.Spec PyProof.Rows L2
inductive SRes where
  | nx (ρ : Env) | rt (d : D) (ρ : Env) | bk (ρ : Env) | exc (x : D) (ρ : Env) | bad
/-- from a state to a later one; L: slots that hold the same value -/
structure After (G : Gd) (P H : Hp) (σ : Sl) (A : List Addr) (L : List Nat) (P' H' : Hp) (σ' : Sl) (ρ' : Env) (A' : List Addr) : Prop where
  ext : Ext P H P' H' A
  st : StRel G P' H' σ' ρ' A'
  sub : ∀ b ∈ A', H b = none ∨ b ∈ A
  len : σ'.length = σ.length
  pin : ∀ j ∈ L, σ'[j]? = σ[j]?
def tS (G : Gd) (W : WX) (L : List Nat) (S : Env → SRes) : TS := fun D σ H => ∃ P ρ A, StRel G P H σ ρ A ∧ match S ρ with
  | .nx ρ' => ∀ σ' P' H' A', After G P H σ A L P' H' σ' ρ' A' → D.nx σ' H'
  | .rt d ρ' => ∀ v σ' P' H' A' B, After G P H σ A L P' H' σ' ρ' A' → Rel G P' H' v d B → (B ++ A').Nodup → (∀ b ∈ B, P' b = none ∧ (H b = none ∨ b ∈ A)) → D.rt v H'
  | .bk ρ' => ∀ σ' P' H' A', After G P H σ A L P' H' σ' ρ' A' → D.bk σ' H'
  | .exc x ρ' => ∀ cls dx σ' P' H' A', After G P H σ A L P' H' σ' ρ' A' → XRel G P' cls dx x → W cls dx σ' H'
  | .bad => False
structure SOk (X : Cx) (W : WX) (L : List Nat) (s : Stmt) (S : Env → SRes) : Prop where ps : PS X s (tS (gd X) W L S)
structure SsOk (X : Cx) (W : WX) (L : List Nat) (s : List Stmt) (S : Env → SRes) : Prop where pss : PSs X s (tS (gd X) W L S)
section
variable {G : Gd} {P H P1 H1 P2 H2 : Hp} {A A1 A2 : List Addr} {σ σ1 σ2 : Sl} {ρ1 ρ2 : Env} {L : List Nat}
theorem Ext.gone (e : Ext P H P1 H1 A) (u : Under P H) {b : Addr} (h : H1 b = none) : H b = none ∨ b ∈ A := by
  by_cases hA : b ∈ A
  · exact .inr hA
  · cases q : H b with
    | none => exact .inl rfl
    | some o =>
      cases qp : P b with
      | none => rw [e.keep b o q qp hA] at h; cases h
      | some w =>
        rcases e.und _ _ (e.same _ _ qp) with z | ⟨_, _, _, z⟩ | ⟨_, _, _, z, _⟩
        · rw [h] at z; cases z
        · rw [h] at z; cases z
        · rw [h] at z; cases z
theorem Ext.transA (u : Under P H) (a : Ext P H P1 H1 A) (b : Ext P1 H1 P2 H2 A1) (s : ∀ b ∈ A1, H b = none ∨ b ∈ A) : Ext P H P2 H2 A where
  same := a.same.trans b.same
  und := b.und
  lck := fun c o u h => b.lck c o u (a.lck c o u h)
  keep := fun c o h n hc => by
    refine b.keep c o (a.keep c o h n hc) ?_ fun z => ?_
    · cases q : P1 c with
      | none => rfl
      | some w =>
        rcases a.new c w q with z | z | z
        · rw [n] at z; cases z
        · rw [h] at z; cases z
        · exact absurd z hc
    · rcases s c z with z | z
      · rw [h] at z; cases z
      · exact hc z
  new := fun c o h => by
    rcases b.new c o h with z | z | z
    · exact a.new c o z
    · rcases a.gone u z with z | z
      · exact .inr (.inl z)
      · exact .inr (.inr z)
    · rcases s c z with z | z
      · exact .inr (.inl z)
      · exact .inr (.inr z)
theorem Ext.more (e : Ext P H P1 H1 []) : Ext P H P1 H1 A := ⟨e.same, e.und, fun b o h n _ => e.keep b o h n (by simp), e.lck, fun b o h => by
  rcases e.new b o h with z | z | z
  · exact .inl z
  · exact .inr (.inl z)
  · simp at z⟩
theorem After.refl {ρ : Env} (st : StRel G P H σ ρ A) : After G P H σ A L P H σ ρ A := ⟨Ext.refl st.und, st, fun b h => .inr h, rfl, fun _ _ => rfl⟩
theorem After.pure {ρ : Env} (st : StRel G P H σ ρ A) (e : Ext P H P1 H1 []) : After G P H σ A L P1 H1 σ ρ A := ⟨e.more, st.ext e, fun b h => .inr h, rfl, fun _ _ => rfl⟩
theorem After.trans (u : Under P H) (a : After G P H σ A L P1 H1 σ1 ρ1 A1) (b : After G P1 H1 σ1 A1 L P2 H2 σ2 ρ2 A2) : After G P H σ A L P2 H2 σ2 ρ2 A2 where
  ext := a.ext.transA u b.ext a.sub
  st := b.st
  sub := fun c hc => by
    rcases b.sub c hc with z | z
    · exact a.ext.gone u z
    · exact a.sub c z
  len := b.len.trans a.len
  pin := fun j hj => (b.pin j hj).trans (a.pin j hj)
/-- a new value's addresses, seen from before -/
theorem After.newB (u : Under P H) (a : After G P H σ A L P1 H1 σ1 ρ1 A1) {B : List Addr} (f : ∀ b ∈ B, P2 b = none ∧ (H1 b = none ∨ b ∈ A1)) : ∀ b ∈ B, P2 b = none ∧ (H b = none ∨ b ∈ A) := fun b hb => ⟨(f b hb).1, by
  rcases (f b hb).2 with z | z
  · exact a.ext.gone u z
  · exact a.sub b z⟩
/-- what comes behind, from a state in between -/
theorem tS_from {W : WX} {D : Ends} {S : Env → SRes} {ρ : Env} (u : Under P H) (a : After G P H σ A L P1 H1 σ1 ρ1 A1) (r : SRes) (hr : match r with
      | .nx ρ' => ∀ σ' P' H' A', After G P H σ A L P' H' σ' ρ' A' → D.nx σ' H'
      | .rt d ρ' => ∀ v σ' P' H' A' B, After G P H σ A L P' H' σ' ρ' A' → Rel G P' H' v d B → (B ++ A').Nodup → (∀ b ∈ B, P' b = none ∧ (H b = none ∨ b ∈ A)) → D.rt v H'
      | .bk ρ' => ∀ σ' P' H' A', After G P H σ A L P' H' σ' ρ' A' → D.bk σ' H'
      | .exc x ρ' => ∀ cls dx σ' P' H' A', After G P H σ A L P' H' σ' ρ' A' → XRel G P' cls dx x → W cls dx σ' H'
      | .bad => False) (hs : S ρ1 = r) : tS G W L S D σ1 H1 := by
  refine ⟨P1, ρ1, A1, a.st, ?_⟩
  rw [hs]
  cases r with
  | nx ρ' => exact fun σ' P' H' A' b => hr _ _ _ _ (a.trans u b)
  | rt d ρ' => exact fun v σ' P' H' A' B b q1 q2 q3 => hr v _ _ _ _ B (a.trans u b) q1 q2 (a.newB u q3)
  | bk ρ' => exact fun σ' P' H' A' b => hr _ _ _ _ (a.trans u b)
  | exc x ρ' => exact fun cls dx σ' P' H' A' b q => hr cls dx _ _ _ _ (a.trans u b) q
  | bad => exact hr
/-- an exception of an expression -/
theorem PostX.stmt {W : WX} {x : D} {ρ : Env} (st : StRel G P H σ ρ A) (h : ∀ cls dx σ' P' H' A', After G P H σ A L P' H' σ' ρ A' → XRel G P' cls dx x → W cls dx σ' H') : PostX G P H W σ x := fun cls dx P' H' e r => h cls dx σ P' H' A (.pure st e) r
end
section
variable {X : Cx} {W : WX} {L : List Nat} {pos : Pos} {e c : Expr} {st : Stmt} {rest : List Stmt} {S T : Env → SRes}
def sNext : Env → SRes := fun ρ => .nx ρ
def sThen (S T : Env → SRes) : Env → SRes := fun ρ => match S ρ with
  | .nx ρ' => T ρ'
  | r => r
theorem ss_nil : SsOk X W L [] sNext := ⟨PSs.imp pss_nil fun D σ H ⟨P, ρ, A, st, h⟩ => h σ P H A (.refl st)⟩
theorem ss_cons (h1 : SOk X W L st S) (h2 : SsOk X W L rest T) : SsOk X W L (st :: rest) (sThen S T) := ⟨PSs.imp (pss_cons h1.ps h2.pss) fun D σ H ⟨P, ρ, A, st, h⟩ => ⟨P, ρ, A, st, by
  unfold sThen at h
  cases hs : S ρ with
  | nx ρ1 =>
    simp only [hs] at h
    intro σ1 P1 H1 A1 a
    exact tS_from (ρ := ρ) st.und a (T ρ1) h rfl
  | rt d ρ1 => simp only [hs] at h; exact h
  | bk ρ1 => simp only [hs] at h; exact h
  | exc x ρ1 => simp only [hs] at h; exact h
  | bad => simp only [hs] at h⟩⟩
theorem ss_one (h1 : SOk X W L st S) : SsOk X W L [st] S := ⟨pss_one h1.ps⟩
/-- a name's value is given up: never changed any more -/
def sFrz (i : Nat) (S : Env → SRes) : Env → SRes := fun ρ => match ρ[i]? with
  | some (some d) => S (ρ.set i (some d.frz))
  | _ => .bad
theorem StRel.frz {G : Gd} {P H : Hp} {σ : Sl} {ρ : Env} {A : List Addr} {i : Nat} {d : D} (st : StRel G P H σ ρ A) (h : ρ[i]? = some (some d)) : ∃ P' A', After G P H σ A L P' H σ (ρ.set i (some d.frz)) A' := by
  have hi : i < ρ.length := (List.getElem?_eq_some_iff.mp h).1
  obtain ⟨B, C, p, q, hv⟩ := st.env.out hi
  rcases hv with ⟨d', v, h1, h2, r⟩ | ⟨h1, _⟩
  · rw [h] at h1
    cases h1
    have bA : ∀ b ∈ B, b ∈ A := fun b hb => p.symm.subset (List.mem_append_left _ hb)
    have cA : ∀ b ∈ C, b ∈ A := fun b hb => p.symm.subset (List.mem_append_right _ hb)
    have g := give_ext (A := B) st.und fun b hb => st.off b (bA b hb)
    obtain ⟨n1, n2, n3⟩ := List.nodup_append.mp (p.nodup_iff.mp st.nd)
    have rf : Rel G (give P H B) H v d.frz [] := r.frz g.same fun b hb => give_in hb
    have qc : EnvRel G (give P H B) H σ (ρ.set i none) C := q.mono g.same fun _ _ => rfl
    obtain ⟨A', p', q'⟩ := qc.put (i := i) rf (by simpa using hi) (by simp [hi])
    rw [List.set_set, EnvRel.set_same h2] at q'
    refine ⟨give P H B, A', ⟨g.same, g.und, fun b o x1 x2 _ => x1, fun _ _ _ x1 => x1, fun b o x => (g.new b o x).elim .inl fun z => z.elim (fun z => .inr (.inl z)) fun z => .inr (.inr (bA b z))⟩, ⟨g.und, q', p'.symm.nodup_iff.mp (by simpa using n2), fun b hb => ?_, st.mks.mono g.same⟩, fun b hb => ?_, rfl, fun _ _ => rfl⟩
    · have hb : b ∈ C := by simpa using p'.subset hb
      rw [give_out fun z => n3 b z b hb rfl]
      exact st.off b (cA b hb)
    · exact .inr (cA b (by simpa using p'.subset hb))
  · rw [h] at h1; cases h1
theorem ss_frz (i : Nat) (h : SsOk X W L rest S) : SsOk X W L rest (sFrz i S) := ⟨PSs.imp h.pss fun D σ H ⟨P, ρ, A, st, h⟩ => by
  unfold sFrz at h
  cases hi : ρ[i]? with
  | none => simp only [hi] at h
  | some o =>
    cases o with
    | none => simp only [hi] at h
    | some d =>
      simp only [hi] at h
      obtain ⟨P', A', a⟩ := st.frz (L := L) hi
      exact tS_from (ρ := ρ) st.und a _ h rfl⟩
/-- target = e -/
def sAsg (t : Tg) (f : Bool) (S : Env → Res D) : Env → SRes := fun ρ => match S ρ with
  | .ok d => match t.set (if f then d.frz else d) ρ with
    | some ρ' => .nx ρ'
    | none => .bad
  | .exc x => .exc x ρ
  | .bad => .bad
theorem asg_imp {t : Tg} {f : Bool} {Se : Env → Res D} (hL : ∀ j ∈ L, j ∉ t.slots) {D : Ends} {σ : Sl} {H : Hp} (h : tS (gd X) W L (sAsg t f Se) D σ H) : tE (gd X) W Se σ H fun x H1 => tG (gd X) t x σ H1 D.nx := by
  obtain ⟨P, ρ, A, st, h⟩ := h
  refine ⟨P, ρ, A, st, ?_⟩
  unfold sAsg at h
  cases hs : Se ρ with
  | bad => simp only [hs] at h
  | exc x => simp only [hs] at h; exact PostX.stmt st h
  | ok d =>
    simp only [hs] at h
    intro v P1 H1 B e1 r fr
    have s1 := st.ext e1
    have nd : (B ++ A).Nodup := List.nodup_append.mpr ⟨fr.1, st.nd, fun x hx y hy z => by
      obtain ⟨o, ho⟩ := st.env.at y hy
      rw [← z, (fr.2 x hx).1] at ho; cases ho⟩
    cases f with
    | false =>
      simp only [Bool.false_eq_true, if_false] at h
      refine ⟨P1, ρ, A, d, B, s1, r, nd, fun b hb => (fr.2 b hb).2, ?_⟩
      cases ht : t.set d ρ with
      | none => simp only [ht] at h
      | some ρ' =>
        simp only [ht] at h
        intro σ' A' st' sub len pin
        refine h σ' P1 H1 A' ⟨e1.more, st', fun b hb => ?_, len, fun j hj => pin j (hL j hj)⟩
        rcases List.mem_append.mp (sub b hb) with z | z
        · exact .inl (fr.2 b z).1
        · exact .inr z
    | true =>
      simp only [if_true] at h
      have g := give_ext (A := B) e1.und fun b hb => (fr.2 b hb).2
      have e2 : Ext P H (give P1 H1 B) H1 [] := ⟨e1.same.trans g.same, g.und, e1.keep, e1.lck, fun b w q => by
        rcases g.new b w q with z | z | z
        · exact e1.new b w z
        · exact .inr (.inl (e1.free st.und z))
        · exact .inr (.inl (fr.2 b z).1)⟩
      refine ⟨give P1 H1 B, ρ, A, d.frz, [], st.ext e2, r.frz g.same fun b hb => give_in hb, by simpa using st.nd, fun b hb => by simp at hb, ?_⟩
      cases ht : t.set d.frz ρ with
      | none => simp only [ht] at h
      | some ρ' =>
        simp only [ht] at h
        intro σ' A' st' sub len pin
        exact h σ' _ H1 A' ⟨e2.more, st', fun b hb => .inr (by simpa using sub b hb), len, fun j hj => pin j (hL j hj)⟩
theorem s_asg {tg : Expr} {t : Tg} {f : Bool} {Se : Env → Res D} (he : EOk X W e Se) (hg : GOk X tg t) (hL : ∀ j ∈ L, j ∉ t.slots := by decide) (hs : swapsWithSole [tg] e pos.line X.env = pure false := by rfl) (hw : swappedStores [tg] e X.env = pure none := by rfl)
    (h1 : (assignEach [tg] X.env).map (·.2) = [assign tg X.env] := by rfl) : SOk X W L (.Assign [tg] e pos) (sAsg t f Se) := ⟨PS.imp (ps_asg he.pe hg.pg hs hw h1) fun D σ H h => asg_imp hL h⟩
/-- name = e -/
theorem s_set (i : Nat) {x : Str} {p : Pos} {f : Bool} {Se : Env → Res D} (hN : X.N.Nodup) (he : EOk X W e Se) (hi : X.N[i]? = some x := by rfl) (hx : Loc X.env.scope x := by first | exact Or.inl rfl | exact Or.inr rfl) (hL : ∀ j ∈ L, j ∉ (Tg.nm i).slots := by decide)
    (hs : swapsWith e (some (.Name x p)) pos.line X.env = pure false := by rfl) (hf : X.fn x = true ∨ X.env.scope.names.lookup x = some .local := by first | exact .inl rfl | exact .inr rfl) : SOk X W L (.Assign [.Name x p] e pos) (sAsg (.nm i) f Se) := ⟨PS.imp (ps_set hN hi hx he.pe hs hf) fun D σ H h => by
  have q := asg_imp hL h
  obtain ⟨P, ρ, A, st, q⟩ := q
  refine ⟨P, ρ, A, st, ?_⟩
  cases hs : Se ρ with
  | bad => simp only [hs] at q
  | exc x => simp only [hs] at q; exact q
  | ok d =>
    simp only [hs] at q
    intro v P1 H1 B e1 r fr
    obtain ⟨P2, ρ2, A2, d2, B2, st2, r2, nd2, o2, h2⟩ := q v P1 H1 B e1 r fr
    simp only [Tg.set] at h2
    by_cases hl : i < ρ2.length
    · rw [if_pos hl] at h2
      obtain ⟨A', st', sub⟩ := st2.store r2 nd2 o2 hl
      refine h2 _ A' st' sub (by simp) fun j hj => ?_
      have hne : i ≠ j := fun e => hj (by simp [Tg.slots, e])
      rw [List.getElem?_set_ne hne]
    · rw [if_neg hl] at h2; exact h2.elim⟩
/-- name = [.. for ..] on one line -/
theorem s_setLc (i : Nat) {x : Str} {p : Pos} {f bor : Bool} {elt tg iter : Expr} {ifs : List Expr} {scope : Scope} {own : List (Str × Nat)} {p2 : Pos} {Si : Env → Res (List D)} {t : Tg} {Tt : Env → Res Bool} {E : Env → Res D} (hc : X.calm = true) (hN : X.N.Nodup) (hi : IOk X W bor tg iter Si)
    (ok : BlkOk X.N X.env.scope scope own) (ht : ∀ i ∈ t.slots, i ∈ own.map (·.2))
    (hg : ∀ (s : Shared) (H : Hp) (C : Addr) (cl : List (Str × Addr)) (fp : List Addr), GOk (X.blk s H scope (compEnvC scope cl C X.env) fp) tg t) (hT : ∀ (s : Shared) (H : Hp) (C : Addr) (cl : List (Str × Addr)) (fp : List Addr), TsOk (X.blk s H scope (compEnvC scope cl C X.env) fp) WF ifs Tt)
    (he : ∀ (s : Shared) (H : Hp) (C : Addr) (cl : List (Str × Addr)) (fp : List Addr), EOk (X.blk s H scope (compEnvC scope cl C X.env) fp) WF elt E)
    (hy : X.N[i]? = some x := by rfl) (hyl : X.env.scope.names.lookup x = some .local := by rfl) (hsw : swapsWith (.ListComp elt [⟨tg, iter, ifs, 0⟩] scope p2) (some (.Name x p)) pos.line X.env = pure true := by exact sw_true rfl rfl rfl (by decide +kernel))
    (hL : ∀ j ∈ L, j ∉ (Tg.nm i).slots := by decide) (hs : ∀ x, foldedSetIterable iter X.env x = pure x := by intro _; rfl) :
    SOk X W L (.Assign [.Name x p] (.ListComp elt [⟨tg, iter, ifs, 0⟩] scope p2) pos) (sAsg (.nm i) f (sLc Si t (own.map (·.2)) Tt E)) :=
  ⟨PS.imp (ps_setLc hc hN hy hyl hsw hi.pi ok (fun s H C cl fp => (hg s H C cl fp).pg) (fun s H C cl fp => (hT s H C cl fp).pts) (fun s H C cl fp => (he s H C cl fp).pe) hs) fun D σ H h => by
    have q := asg_imp hL h
    refine lc_imp (bor := bor) (T := Tt) (E := E) ht ?_
    obtain ⟨P, ρ, A, st, q⟩ := q
    refine ⟨P, ρ, A, st, ?_⟩
    cases hs : sLc Si t (own.map (·.2)) Tt E ρ with
    | bad => simp only [hs] at q
    | exc x => simp only [hs] at q; exact q
    | ok d =>
      simp only [hs] at q
      intro v P1 H1 B e1 r fr
      obtain ⟨P2, ρ2, A2, d2, B2, st2, r2, nd2, o2, h2⟩ := q v P1 H1 B e1 r fr
      simp only [Tg.set] at h2
      by_cases hl : i < ρ2.length
      · rw [if_pos hl] at h2
        obtain ⟨A', st', sub⟩ := st2.store r2 nd2 o2 hl
        refine h2 _ A' st' sub (by simp) fun j hj => ?_
        have hne : i ≠ j := fun e => hj (by simp [Tg.slots, e])
        rw [List.getElem?_set_ne hne]
      · rw [if_neg hl] at h2; exact h2.elim⟩
/-- a, b = x, y -/
def sPar (i j : Nat) (S : Env → Res (List D)) : Env → SRes := fun ρ => match S ρ with
  | .ok [d, e] => match (Tg.tp [.nm i, .nm j]).set (.tup [d, e]) ρ with
    | some ρ' => .nx ρ'
    | none => .bad
  | .exc x => .exc x ρ
  | _ => .bad
theorem s_par (i j : Nat) {x y : Str} {a b : Expr} {px py pt : Pos} {kt k2 : Nat} {pt2 : Pos} {Se : Env → Res (List D)} (hc : X.calm = true) (hN : X.N.Nodup) (ha : AOk X W [a, b] Se) (hij : i ≠ j := by decide) (hi : X.N[i]? = some x := by rfl) (hj : X.N[j]? = some y := by rfl)
    (hx : X.env.scope.names.lookup x = some .local := by rfl) (hy : X.env.scope.names.lookup y = some .local := by rfl) (hL : ∀ l ∈ L, l ≠ i ∧ l ≠ j := by decide)
    (hw : swappedStores [.Tuple [.Name x px, .Name y py] kt pt] (.Tuple [a, b] k2 pt2) X.env = pure (some [x, y]) := by rfl) (hs : swapsWithSole [.Tuple [.Name x px, .Name y py] kt pt] (.Tuple [a, b] k2 pt2) pos.line X.env = pure false := by rfl) :
    SOk X W L (.Assign [.Tuple [.Name x px, .Name y py] kt pt] (.Tuple [a, b] k2 pt2) pos) (sPar i j Se) := ⟨PS.imp (ps_par hc hN hi hj hij hx hy ha.pa hw hs) fun D σ H ⟨P, ρ, A, st, h⟩ => ⟨P, ρ, A, st, by
  unfold sPar at h
  cases hs : Se ρ with
  | bad => simp only [hs] at h
  | exc x => simp only [hs] at h; exact PostX.stmt st h
  | ok ds =>
    simp only [hs] at h
    intro vs P1 H1 B e1 r fr
    cases r with
    | nil => exact h.elim
    | @cons v d B1 vs ds B2 r1 r2 =>
      cases r2 with
      | nil => exact h.elim
      | @cons w d' B2 vs ds B3 r2 r3 =>
        cases r3 with
        | cons _ _ => exact h.elim
        | nil =>
          refine ⟨v, w, rfl, ?_⟩
          rw [List.append_nil] at fr
          simp only [Tg.set, tgSetL] at h
          by_cases hli : i < ρ.length
          · rw [if_pos hli] at h
            simp only [Option.bind, List.length_set] at h
            by_cases hlj : j < ρ.length
            · rw [if_pos hlj] at h
              obtain ⟨n1, n2, n3⟩ := List.nodup_append.mp fr.1
              have dA : ∀ b ∈ B1 ++ B2, ∀ y ∈ A, b ≠ y := fun b hb y hy z => by
                obtain ⟨o, ho⟩ := st.env.at y hy
                rw [← z, (fr.2 b hb).1] at ho; cases ho
              obtain ⟨A1, st1, sub1⟩ := (st.ext e1).store r1 (i := i) (List.nodup_append.mpr ⟨n1, st.nd, fun x hx y hy => dA x (List.mem_append_left _ hx) y hy⟩) (fun b hb => (fr.2 b (List.mem_append_left _ hb)).2) hli
              obtain ⟨A2, st2, sub2⟩ := st1.store r2 (i := j) (List.nodup_append.mpr ⟨n2, st1.nd, fun x hx y hy z => by
                rcases List.mem_append.mp (sub1 y hy) with q | q
                · exact n3 y q x hx z.symm
                · exact dA x (List.mem_append_right _ hx) y q z⟩) (fun b hb => (fr.2 b (List.mem_append_right _ hb)).2) (by simpa using hlj)
              refine h _ P1 H1 A2 ⟨e1.more, st2, fun b hb => ?_, by simp, fun l hl => ?_⟩
              · rcases List.mem_append.mp (sub2 b hb) with q | q
                · exact .inl (fr.2 b (List.mem_append_right _ q)).1
                · rcases List.mem_append.mp (sub1 b q) with q | q
                  · exact .inl (fr.2 b (List.mem_append_left _ q)).1
                  · exact .inr q
              · rw [List.getElem?_set_ne (hL l hl).2.symm, List.getElem?_set_ne (hL l hl).1.symm]
            · rw [if_neg hlj] at h; exact h.elim
          · rw [if_neg hli] at h; exact h.elim⟩⟩
/-- a value dropped -/
def sExpr (S : Env → Res D) : Env → SRes := fun ρ => match S ρ with
  | .ok _ => .nx ρ
  | .exc x => .exc x ρ
  | .bad => .bad
theorem s_expr {Se : Env → Res D} (he : EOk X W e Se) (hs : swapsWith e none pos.line X.env = pure false := by rfl) : SOk X W L (.Expr e pos) (sExpr Se) := ⟨PS.imp (ps_expr he.pe hs) fun D σ H ⟨P, ρ, A, st, h⟩ => ⟨P, ρ, A, st, by
  unfold sExpr at h
  cases hs : Se ρ with
  | bad => simp only [hs] at h
  | exc x => simp only [hs] at h; exact PostX.stmt st h
  | ok d => simp only [hs] at h; exact fun v P1 H1 B e1 r fr => h σ P1 H1 A (.pure st e1)⟩⟩
theorem s_pass : SOk X W L (.Pass pos) sNext := ⟨PS.imp ps_pass fun D σ H ⟨P, ρ, A, st, h⟩ => h σ P H A (.refl st)⟩
def sBreak : Env → SRes := fun ρ => .bk ρ
theorem s_break : SOk X W L (.Break pos) sBreak := ⟨PS.imp ps_break fun D σ H ⟨P, ρ, A, st, h⟩ => h σ P H A (.refl st)⟩
/-- return e -/
def sRet (S : Env → Res D) : Env → SRes := fun ρ => match S ρ with
  | .ok d => .rt d ρ
  | .exc x => .exc x ρ
  | .bad => .bad
theorem s_ret {Se : Env → Res D} (he : EOk X W e Se) : SOk X W L (.Return (some e) pos) (sRet Se) := ⟨PS.imp (ps_ret he.pe) fun D σ H ⟨P, ρ, A, st, h⟩ => ⟨P, ρ, A, st, by
  unfold sRet at h
  cases hs : Se ρ with
  | bad => simp only [hs] at h
  | exc x => simp only [hs] at h; exact PostX.stmt st h
  | ok d =>
    simp only [hs] at h
    exact fun v P1 H1 B e1 r fr => h v σ P1 H1 A B (.pure st e1) r (List.nodup_append.mpr ⟨fr.1, st.nd, fun x hx y hy z => by
      obtain ⟨o, ho⟩ := st.env.at y hy
      rw [← z, (fr.2 x hx).1] at ho; cases ho⟩) fun b hb => ⟨(fr.2 b hb).2, .inl (fr.2 b hb).1⟩⟩⟩
def sRetN : Env → SRes := fun ρ => .rt .non ρ
theorem s_retN : SOk X W L (.Return none pos) sRetN := ⟨PS.imp ps_retN fun D σ H ⟨P, ρ, A, st, h⟩ => h .non σ P H A [] (.refl st) .non (by simpa using st.nd) fun b hb => by simp at hb⟩
/-- return of a name's value: it goes to the caller -/
def sRetV (i : Nat) : Env → SRes := fun ρ => match ρ[i]? with
  | some (some d) => .rt d (ρ.set i none)
  | _ => .bad
theorem s_retV (i : Nat) {x : Str} {p : Pos} (hN : X.N[i]? = some x := by rfl) (hv : Vis X.env.scope x := by first | exact Or.inl rfl | exact Or.inr (Or.inl rfl) | exact Or.inr (Or.inr rfl)) (hd : (x == ("__debug__" : Str)) = false := by decide)
    (hcd : (x == ("__classdict__" : Str)) = false := by decide) : SOk X W L (.Return (some (.Name x p)) pos) (sRetV i) := ⟨PS.imp (ps_ret (pe_var hN hv hd hcd)) fun D σ H ⟨P, ρ, A, st, h⟩ => by
  unfold sRetV at h
  cases hi : ρ[i]? with
  | none => simp only [hi] at h
  | some o =>
    cases o with
    | none => simp only [hi] at h
    | some d =>
      simp only [hi] at h
      have hl : i < ρ.length := (List.getElem?_eq_some_iff.mp hi).1
      obtain ⟨B, C, p, q, hv⟩ := st.env.out hl
      rcases hv with ⟨d', v, h1, h2, r⟩ | ⟨h1, _⟩
      · rw [hi] at h1
        cases h1
        have cA : ∀ b ∈ C, b ∈ A := fun b hb => p.symm.subset (List.mem_append_right _ hb)
        have bA : ∀ b ∈ B, b ∈ A := fun b hb => p.symm.subset (List.mem_append_left _ hb)
        have n := p.nodup_iff.mp st.nd
        exact ⟨v, h2, h v σ P H C B ⟨Ext.refl st.und, ⟨st.und, q, (List.nodup_append.mp n).2.1, fun b hb => st.off b (cA b hb), st.mks⟩, fun b hb => .inr (cA b hb), rfl, fun _ _ => rfl⟩ r n fun b hb => ⟨st.off b (bA b hb), .inr (bA b hb)⟩⟩
      · rw [hi] at h1; cases h1⟩
/-- if -/
def sIfS (C : Env → Res Bool) (S T : Env → SRes) : Env → SRes := fun ρ => match C ρ with
  | .ok true => S ρ
  | .ok false => T ρ
  | .exc x => .exc x ρ
  | .bad => .bad
theorem s_if {C : Env → Res Bool} {a b : List Stmt} (hc : TOk X W c C) (ha : SsOk X W L a S) (hb : SsOk X W L b T) : SOk X W L (.If c a b pos) (sIfS C S T) := ⟨PS.imp (ps_if hc.pt ha.pss hb.pss) fun D σ H ⟨P, ρ, A, st, h⟩ => ⟨P, ρ, A, st, by
  unfold sIfS at h
  cases hs : C ρ with
  | bad => simp only [hs] at h
  | exc x => simp only [hs] at h; exact PostX.stmt st h
  | ok k =>
    intro P1 H1 e1
    cases k with
    | true => simp only [hs] at h; rw [if_pos rfl]; exact tS_from (ρ := ρ) st.und (.pure st e1) (S ρ) h rfl
    | false => simp only [hs] at h; rw [if_neg Bool.false_ne_true]; exact tS_from (ρ := ρ) st.und (.pure st e1) (T ρ) h rfl⟩⟩
/-- while -/
def whileRun (C : Env → Res Bool) (S : Env → SRes) : Nat → Env → SRes
  | 0, _ => .bad
  | n + 1, ρ => match C ρ with
    | .ok true => match S ρ with
      | .nx ρ' => whileRun C S n ρ'
      | .bk ρ' => .nx ρ'
      | r => r
    | .ok false => .nx ρ
    | .exc x => .exc x ρ
    | .bad => .bad
theorem s_while (n : Nat) {C : Env → Res Bool} {body : List Stmt} (hp : PassesOwn (model X.prog X.w) X.A X.env X.xe) (hc : TOk X W c C) (hb : SsOk X W L body S) : SOk X W L (.While c body [] pos) (whileRun C S n) := ⟨PS.imp (ps_while hp hc.pt hb.pss) fun D σ H ⟨P, ρ, A, st, h⟩ => by
  refine ⟨fun m σc Hc => ∃ Pc ρc Ac, After (gd X) P H σ A L Pc Hc σc ρc Ac ∧ whileRun C S m ρc = whileRun C S n ρ, ⟨n, P, ρ, A, .refl st, rfl⟩, ?_⟩
  rintro m σc Hc ⟨Pc, ρc, Ac, a, hr⟩
  refine ⟨Pc, ρc, Ac, a.st, ?_⟩
  cases m with
  | zero =>
    rw [← hr] at h
    simp only [whileRun] at h
  | succ m =>
    rw [← hr] at h
    simp only [whileRun] at h
    cases hs : C ρc with
    | bad => simp only [hs] at h
    | exc x => simp only [hs] at h; exact fun cls dx P' H' e1 q => h cls dx σc P' H' Ac (a.trans st.und (.pure a.st e1)) q
    | ok k =>
      intro P1 H1 e1
      have a1 := a.trans st.und (.pure (L := L) a.st e1)
      cases k with
      | false =>
        simp only [hs] at h
        rw [if_neg Bool.false_ne_true]
        exact h σc P1 H1 Ac a1
      | true =>
        simp only [hs] at h
        rw [if_pos rfl]
        refine ⟨fun σ' H' => ∃ P' ρ' A', After (gd X) P H σ A L P' H' σ' ρ' A' ∧ whileRun C S m ρ' = whileRun C S n ρ, fun σ' H' q => ⟨m, Nat.lt_succ_self m, q⟩, P1, ρc, Ac, a1.st, ?_⟩
        cases hS : S ρc with
        | bad => simp only [hS] at h
        | nx ρ' =>
          simp only [hS] at h
          intro σ' P' H' A' b
          refine ⟨P', ρ', A', a1.trans st.und b, ?_⟩
          rw [← hr]
          simp only [whileRun, hs, hS]
        | bk ρ' => simp only [hS] at h; exact fun σ' P' H' A' b => h _ _ _ _ (a1.trans st.und b)
        | rt d ρ' => simp only [hS] at h; exact fun v σ' P' H' A' B b q1 q2 q3 => h v _ _ _ _ B (a1.trans st.und b) q1 q2 (a1.newB st.und q3)
        | exc x ρ' => simp only [hS] at h; exact fun cls dx σ' P' H' A' b q => h cls dx _ _ _ _ (a1.trans st.und b) q⟩
/-- for -/
def forRun (t : Tg) (S : Env → SRes) : List D → Env → SRes
  | [], ρ => .nx ρ
  | d :: ds, ρ => match t.set d ρ with
    | some ρ1 => match S ρ1 with
      | .nx ρ2 => forRun t S ds ρ2
      | .bk ρ2 => .nx ρ2
      | r => r
    | none => .bad
def sFor (Si : Env → Res (List D)) (t : Tg) (S : Env → SRes) : Env → SRes := fun ρ => match Si ρ with
  | .ok ds => forRun t S ds ρ
  | .exc x => .exc x ρ
  | .bad => .bad
theorem s_for {tg iter : Expr} {t : Tg} {Si : Env → Res (List D)} {body : List Stmt} (hp : PassesOwn (model X.prog X.w) X.A X.env X.xe) (hc : X.calm = true) (hi : IOk X W false tg iter Si) (hg : GOk X tg t) (hb : SsOk X W L body S) (hL : ∀ j ∈ L, j ∉ t.slots := by decide)
    (hs : ∀ x, foldedSetIterable iter X.env x = pure x := by intro _; rfl) : SOk X W L (.For tg iter body [] pos) (sFor Si t S) := ⟨PS.imp (ps_for hp hc hi.pi hg.pg hb.pss hs) fun D σ H ⟨P, ρ, A, st, h⟩ => ⟨P, ρ, A, st, by
  unfold sFor at h
  cases hs : Si ρ with
  | bad => simp only [hs] at h
  | exc x => simp only [hs] at h; exact PostX.stmt st h
  | ok ds =>
    simp only [hs] at h
    intro J P0 H0 Src it sr e0
    have a0 : After (gd X) P H σ A L P0 H0 σ ρ A := .pure st e0
    let Iv : Nat → Sl → Hp → Prop := fun i σc Hc => i ≤ ds.length ∧ ∃ Pc ρc Ac, After (gd X) P H σ A L Pc Hc σc ρc Ac ∧ Src Pc Hc ∧ forRun t S (ds.drop i) ρc = forRun t S ds ρ
    refine ⟨fun i m σc Hc => m = ds.length - i ∧ Iv i σc Hc, ⟨ds.length, by simp, Nat.zero_le _, P0, ρ, A, a0, sr, rfl⟩, ?_⟩
    rintro i m σc Hc ⟨rfl, hi, Pc, ρc, Ac, a, sc, hr⟩
    have uc := a.st.und
    by_cases hlt : i < ds.length
    · right
      obtain ⟨hgo, hy⟩ := it.go i Pc Hc uc sc hlt
      refine ⟨hgo, Iv (i + 1), fun σ' H' q => ⟨ds.length - (i + 1), by omega, rfl, q⟩, fun x H' y => ?_⟩
      obtain ⟨P2, d, e2, hd, rd⟩ := hy x H' y
      have hdrop : ds.drop i = d :: ds.drop (i + 1) := by
        rw [List.drop_eq_getElem_cons hlt]
        congr 1
        rw [List.getElem?_eq_getElem hlt] at hd
        exact Option.some.inj hd
      rw [← hr] at h
      rw [hdrop] at h hr
      simp only [forRun] at h
      have a2 := a.trans st.und (.pure (L := L) a.st e2)
      refine ⟨P2, ρc, Ac, d, [], a2.st, rd, by simpa using a2.st.nd, fun b hb => by simp at hb, ?_⟩
      cases ht : t.set d ρc with
      | none => simp only [ht] at h
      | some ρ1 =>
        simp only [ht] at h
        intro σ1 A1 st1 sub len pin
        have a3 : After (gd X) P2 H' σc Ac L P2 H' σ1 ρ1 A1 := ⟨Ext.refl a2.st.und, st1, fun b hb => .inr (by simpa using sub b hb), len, fun j hj => pin j (hL j hj)⟩
        have a4 := a2.trans st.und a3
        refine ⟨P2, ρ1, A1, st1, ?_⟩
        cases hS : S ρ1 with
        | bad => simp only [hS] at h
        | nx ρ2 =>
          simp only [hS] at h
          intro σ' P' H2 A' b
          refine ⟨hlt, P', ρ2, A', a4.trans st.und b, ?_, ?_⟩
          · exact it.stay P2 H' P' H2 A1 (fun z => by cases z) a2.st.und b.ext (it.stay Pc Hc P2 H' [] (fun _ => rfl) uc e2 sc)
          · rw [← hr]
            simp only [forRun, ht, hS]
        | bk ρ2 => simp only [hS] at h; exact fun σ' P' H2 A' b => h _ _ _ _ (a4.trans st.und b)
        | rt dv ρ2 => simp only [hS] at h; exact fun v σ' P' H2 A' B b q1 q2 q3 => h v _ _ _ _ B (a4.trans st.und b) q1 q2 (a4.newB st.und q3)
        | exc x ρ2 => simp only [hS] at h; exact fun cls dx σ' P' H2 A' b q => h cls dx _ _ _ _ (a4.trans st.und b) q
    · left
      have e : i = ds.length := by omega
      subst e
      refine ⟨it.stop _ Pc Hc uc sc (Nat.le_refl _), ?_⟩
      rw [← hr, List.drop_length] at h
      exact h σc Pc Hc Ac a⟩⟩
end
end RL

/-! RL: defs, what they promise, their calls. -/
namespace RL
open PySem PySem.Spec PyProof.Rows L2
/-- room for calls, and no representation under way -/
structure GRoom (k : Nat) (A : Around) : Prop where
  r : Room k A
  g : A.guards = some []
theorem GRoom.mono {j k : Nat} {A : Around} (h : GRoom k A) (l : j ≤ k) : GRoom j A := ⟨h.r.mono l, h.g⟩
/-- a def keeps a promise wherever there is room -/
structure FnG (P : Program) (w : World) (K : PySem.W.Frag) (mg : Str → Option Value) (base : Heap) (k : Nat) (f : Addr) (fd : FuncData) (ps : List Str) (sp : Sp) : Prop where
  len : ∀ vs H Q E, sp vs H Q E → vs.length = ps.length
  run : ∀ (A : Around) (outer : List PySem.Env) (s : Shared) (H : Hp) (args : Args) (us : List Value) (vs : List V) (Q : VK) (E : XK), GRoom k A → Env0 P w K mg base A outer s H →
    BindsTo s fd args (ps.zip us) → Vals vs us → sp vs H Q E → codeAny (model P w) A (.call (.ref f) args) (CR (L2.CX P w) outer P w H s Q E) s
theorem FnG.mono {P : Program} {w : World} {K : PySem.W.Frag} {mg : Str → Option Value} {base : Heap} {j k : Nat} {f : Addr} {fd : FuncData} {ps : List Str} {sp : Sp} (F : FnG P w K mg base j f fd ps sp) (h : j ≤ k) : FnG P w K mg base k f fd ps sp :=
  ⟨F.len, fun A outer s H args us vs Q E hr => F.run A outer s H args us vs Q E (hr.mono h)⟩
section
variable {P : Program} {w : World} {K : PySem.W.Frag} {mg : Str → Option Value} {base : Heap}
/-- the def's code object -/
def Cod (K : PySem.W.Frag) (f : Addr) (cdv : Value) : Prop := ∃ oc od fd osl, K.lookup f = some ⟨oc, od, .func fd, osl⟩ ∧ fd.code = cdv
/-- a def of the text keeps its promise if its body does -/
theorem fnG_of {k : Nat} {x qual : Str} {st : Stmt} {f : Addr} {fd : FuncData} {N ps : List Str} {sp : Sp} (F : Fun K x qual st f fd) (S : FnScope N ps (defScope st)) (len : ∀ vs H Q E, sp vs H Q E → vs.length = ps.length)
    (body : ∀ (cdv : Value) (A : Around) (outer : List PySem.Env) (s : Shared) (H : Hp) (vs : List V) (Q : VK) (E : XK), Cod K f cdv → GRoom k (cxOf (L2.CX P w) P w K mg base N qual (defScope st) f cdv A outer s H E).A → sp vs H Q E →
      ∃ t, PSs (cxOf (L2.CX P w) P w K mg base N qual (defScope st) f cdv A outer s H E) (defBody st) t ∧ t { nx := fun _ H' => Q .non H', rt := Q } (L2.start N vs) H) : FnG P w K mg base (k + 1) f fd ps sp := by
  obtain ⟨oc, od, kV, doc, pm, an, cdv, ct, osl, e, look, isCode⟩ := F.ex
  subst e
  constructor
  · exact len
  intro A outer s H args us vs Q E room env binds rel prom
  have lens : vs.length = ps.length := len vs H Q E prom
  have there : ∀ b o, base.get? b = some o → s.heap.get? b = some o := fun b o q => (env.bs b o q).1
  have kin : K.In s.heap := env.mod.kin.keeps there
  have kinds : ∀ y ∈ ps.zip us, (defScope st).names.lookup y.1 = some .local ∨ ((defScope st).names.lookup y.1 = some .cell ∧ ((cellsFrom (s.heap.objs.size + 1) (defScope st).names []).lookup y.1).isSome = true) := by
    intro y hy
    have hy1 : y.1 ∈ ps := (List.of_mem_zip (a := y.1) (b := y.2) hy).1
    cases S.par y.1 hy1 with
    | inl q => exact Or.inl q
    | inr q => exact Or.inr ⟨q, PySem.W.cellsFrom_some _ _ _ (Or.inl q)⟩
  apply codeAny_call_function room.r.depth (kin _ _ look) rfl S.co S.gen rfl (PySem.W.codeRec_of kin isCode)
  apply binds
  apply wpAny_newFunctionEnv_cells S.kind kinds
  intro env1 henv s1 inCall
  subst henv
  constructor
  · exact (env.mod.nolimit.keeps there).keeps inCall.toInCall.keep
  apply codeAny_func
  obtain ⟨t, ht, q⟩ := body cdv A outer s H vs Q E ⟨_, _, _, _, look, rfl⟩ ⟨room.r.deeper _, room.g⟩ prom
  have I := inv_start (CX := L2.CX P w) (E := E) (base := base) (K := K) (mg := mg) (w := w) S room.r.hd env lens rel inCall
  apply wpAny_mono (ht.run [] s1 (L2.start N vs) H _ I q)
  · intro fl s' h
    cases fl with
    | ret u =>
      obtain ⟨v, σ', H', J, rv, q'⟩ := h
      exact ⟨v, H', J.os, J.bare, J.base, J.hok, rv, q'⟩
    | next =>
      obtain ⟨σ', H', J, q'⟩ := h
      exact ⟨.non, H', J.os, J.bare, J.base, J.hok, rfl, q'⟩
    | brk =>
      obtain ⟨_, _, _, q'⟩ := h
      exact q'.elim
    | cont =>
      obtain ⟨_, _, _, q'⟩ := h
      exact q'.elim
  · intro u s' h
    exact h
end

/-! ### pure promises -/
inductive FR where
  | ok (d : D) (outs : List D) | exc (x : D) (outs : List D) | bad
def pick {α : Type} (L : List Nat) (vs : List α) : List α := L.filterMap fun i => vs[i]?
/-- the arguments are ds; the answer is what φ says; L: the places of the arguments that may be changed -/
def spF (G : Gd) (n : Nat) (L : List Nat) (φ : List D → FR) : Sp := fun vs H Q E => vs.length = n ∧ ∃ P ds A, Under P H ∧ Marks G P ∧ RelL G P H vs ds A ∧ A.Nodup ∧ (∀ b ∈ A, P b = none) ∧ match φ ds with
  | .ok d outs => ∀ v P' H' B C, Ext P H P' H' A → Rel G P' H' v d B → RelL G P' H' (pick L vs) outs C → (B ++ C).Nodup → (∀ b ∈ B ++ C, P' b = none ∧ (H b = none ∨ b ∈ A)) → Q v H'
  | .exc x outs => ∀ cls dx P' H' C, Ext P H P' H' A → XRel G P' cls dx x → RelL G P' H' (pick L vs) outs C → C.Nodup → (∀ b ∈ C, P' b = none ∧ (H b = none ∨ b ∈ A)) → E cls dx H'
  | .bad => False
def outsOf (L : List Nat) (ρ : Env) : Option (List D) := L.mapM fun i => (ρ[i]?).bind id
def entry (n : Nat) (ds : List D) : Env := ds.map some ++ List.replicate (n - ds.length) none
/-- what a body comes to -/
def runDef (n : Nat) (L : List Nat) (S : Env → SRes) : List D → FR := fun ds => match S (entry n ds) with
  | .nx ρ => match outsOf L ρ with
    | some os => .ok .non os
    | none => .bad
  | .rt d ρ => match outsOf L ρ with
    | some os => .ok d os
    | none => .bad
  | .exc x ρ => match outsOf L ρ with
    | some os => .exc x os
    | none => .bad
  | _ => .bad
section
variable {G : Gd} {P H : Hp}
theorem RelL.entry : ∀ {vs : List V} {ds : List D} {A : List Addr} (m : Nat), RelL G P H vs ds A → EnvRel G P H (vs.map some ++ List.replicate m none) (ds.map some ++ List.replicate m none) A
  | _, _, _, m, .nil => by
    simp only [List.map_nil, List.nil_append]
    induction m with
    | zero => exact .nil
    | succ m ih => exact .no ih
  | _, _, _, m, .cons r t => .val r (RelL.entry m t)
/-- some slots' values together -/
theorem EnvRel.picks : ∀ {L : List Nat} {σ : Sl} {ρ : Env} {A : List Addr} {os : List D}, EnvRel G P H σ ρ A → L.Nodup → outsOf L ρ = some os → ∃ vs C R, A.Perm (C ++ R) ∧ RelL G P H vs os C ∧ (L.map fun i => σ[i]?) = vs.map fun v => some (some v)
  | [], σ, ρ, A, os, e, _, h => by
    have h' : os = [] := by simpa [outsOf] using h.symm
    subst h'
    exact ⟨[], [], A, .refl _, .nil, rfl⟩
  | i :: L, σ, ρ, A, os, e, nd, h => by
    obtain ⟨n1, n2⟩ := List.nodup_cons.mp nd
    simp only [outsOf, List.mapM_cons] at h
    cases hi : (ρ[i]?).bind id with
    | none => rw [hi] at h; cases h
    | some d =>
      rw [hi] at h
      cases hr : L.mapM fun i => (ρ[i]?).bind id with
      | none =>
        have h2 : (L.mapM fun i => (ρ[i]?).bind id).bind (fun bs => some (d :: bs)) = some os := h
        rw [hr] at h2; cases h2
      | some os' =>
        have h2 : (L.mapM fun i => (ρ[i]?).bind id).bind (fun bs => some (d :: bs)) = some os := h
        rw [hr] at h2
        obtain rfl : d :: os' = os := Option.some.inj h2
        have hρ : ρ[i]? = some (some d) := by
          cases q : ρ[i]? with
          | none => rw [q] at hi; cases hi
          | some o =>
            rw [q] at hi
            have : o = some d := hi
            rw [this]
        have hl : i < ρ.length := (List.getElem?_eq_some_iff.mp hρ).1
        obtain ⟨B, C, p, q, hv⟩ := e.out hl
        rcases hv with ⟨d', v, h1, h2', r⟩ | ⟨h1, _⟩
        · rw [hρ] at h1
          cases h1
          have hq : outsOf L (ρ.set i none) = some os' := by
            have e0 : ∀ (M : List Nat), i ∉ M → M.mapM (fun j => ((ρ.set i none)[j]?).bind id) = M.mapM fun j => (ρ[j]?).bind id := by
              intro M
              induction M with
              | nil => intro _; rfl
              | cons m M ih =>
                intro hm
                simp only [List.mem_cons, not_or] at hm
                rw [List.mapM_cons, List.mapM_cons, ih hm.2, List.getElem?_set_ne hm.1]
            unfold outsOf
            rw [e0 L n1, hr]
          obtain ⟨vs, C', R, p', r', g⟩ := q.picks n2 hq
          refine ⟨v :: vs, B ++ C', R, ?_, .cons r r', ?_⟩
          · refine p.trans ?_
            rw [List.append_assoc]
            exact p'.append_left B
          · simp only [List.map_cons, h2', g]
        · rw [hρ] at h1; cases h1
end
section
variable {P : Program} {w : World} {K : PySem.W.Frag} {mg : Str → Option Value} {base : Heap}
theorem pick_of {L : List Nat} {σ' : Sl} {vs xs : List V} {n : Nat} (h : (L.map fun i => σ'[i]?) = xs.map fun v => some (some v)) (pin : ∀ j ∈ L, σ'[j]? = (vs.map some ++ List.replicate n none)[j]?) : pick L vs = xs := by
  induction L generalizing xs with
  | nil =>
    cases xs with
    | nil => rfl
    | cons _ _ => cases h
  | cons i L ih =>
    cases xs with
    | nil => cases h
    | cons x xs =>
      simp only [List.map_cons, List.cons.injEq] at h
      have hi := pin i List.mem_cons_self
      rw [h.1] at hi
      have hlt : i < vs.length := by
        by_cases hlt : i < vs.length
        · exact hlt
        · rw [List.getElem?_append_right (by simpa using hlt), List.getElem?_replicate] at hi
          split at hi <;> cases hi
      rw [List.getElem?_append_left (by simpa using hlt), List.getElem?_map] at hi
      have hv : vs[i]? = some x := by
        cases q : vs[i]? with
        | none => rw [q] at hi; cases hi
        | some y => rw [q] at hi; cases hi; rfl
      have r := ih (xs := xs) h.2 fun j hj => pin j (List.mem_cons_of_mem _ hj)
      unfold pick at r ⊢
      rw [List.filterMap_cons, hv, r]
/-- THE RULE of a def: its body's meaning is S -/
theorem fn_okC {k : Nat} {x qual : Str} {st : Stmt} {f : Addr} {fd : FuncData} {N ps : List Str} {S : Env → SRes} {L : List Nat} (F : Fun K x qual st f fd) (Sc : FnScope N ps (defScope st)) (hL : L.Nodup)
    (body : ∀ (X : Cx) (W : WX) (cdv : Value) (A : Around) (outer : List PySem.Env) (s : Shared) (H : Hp) (E : XK), X = cxOf (L2.CX P w) P w K mg base N qual (defScope st) f cdv A outer s H E → Cod K f cdv → GRoom k X.A → Takes X W → PassesOwn (model X.prog X.w) X.A X.env X.xe → SsOk X W L (defBody st) S) :
    FnG P w K mg base (k + 1) f fd ps (spF ⟨K, mg⟩ ps.length L (runDef N.length L S)) := by
  refine fnG_of F Sc (fun vs H Q E h => h.1) fun cdv A outer s H vs Q E hcd hr h => ?_
  have tk := takes_of (X := cxOf (L2.CX P w) P w K mg base N qual (defScope st) f cdv A outer s H E) (E := E) rfl rfl rfl rfl
  have hp := passes_of (X := cxOf (L2.CX P w) P w K mg base N qual (defScope st) f cdv A outer s H E) rfl
  have B := body _ _ cdv A outer s H E rfl hcd hr tk hp
  refine ⟨_, B.pss, ?_⟩
  obtain ⟨hlen, Pg, ds, As, un, mks, rl, nd, off, h⟩ := h
  have hds : ds.length = vs.length := rl.length.symm
  have er := rl.entry (N.length - vs.length)
  refine ⟨Pg, entry N.length ds, As, ⟨un, by unfold entry L2.start; rw [hds]; exact er, nd, off, mks⟩, ?_⟩
  unfold runDef at h
  cases hS : S (entry N.length ds) with
  | bad => rw [hS] at h; exact h.elim
  | bk ρ => rw [hS] at h; exact h.elim
  | nx ρ =>
    rw [hS] at h
    cases ho : outsOf L ρ with
    | none => simp only [ho] at h
    | some os =>
      simp only [ho] at h
      intro σ' P' H' A' a
      obtain ⟨xs, C, R, p, r, g⟩ := a.st.env.picks hL ho
      have e := pick_of g a.pin
      have cA : ∀ b ∈ C, b ∈ A' := fun b hb => p.symm.subset (List.mem_append_left _ hb)
      exact h .non P' H' [] C a.ext .non (e ▸ r) (by simpa using (List.nodup_append.mp (p.nodup_iff.mp a.st.nd)).1) fun b hb => ⟨a.st.off b (cA b (by simpa using hb)), a.sub b (cA b (by simpa using hb))⟩
  | rt d ρ =>
    rw [hS] at h
    cases ho : outsOf L ρ with
    | none => simp only [ho] at h
    | some os =>
      simp only [ho] at h
      intro v σ' P' H' A' B a rv ndB fB
      obtain ⟨xs, C, R, p, r, g⟩ := a.st.env.picks hL ho
      have e := pick_of g a.pin
      have cA : ∀ b ∈ C, b ∈ A' := fun b hb => p.symm.subset (List.mem_append_left _ hb)
      obtain ⟨m1, m2, m3⟩ := List.nodup_append.mp ndB
      refine h v P' H' B C a.ext rv (e ▸ r) (List.nodup_append.mpr ⟨m1, (List.nodup_append.mp (p.nodup_iff.mp a.st.nd)).1, fun x hx y hy => m3 x hx y (cA y hy)⟩) fun b hb => ?_
      rcases List.mem_append.mp hb with z | z
      · exact fB b z
      · exact ⟨a.st.off b (cA b z), a.sub b (cA b z)⟩
  | exc x ρ =>
    rw [hS] at h
    cases ho : outsOf L ρ with
    | none => simp only [ho] at h
    | some os =>
      simp only [ho] at h
      intro cls dx σ' P' H' A' a xr
      obtain ⟨xs, C, R, p, r, g⟩ := a.st.env.picks hL ho
      have e := pick_of g a.pin
      have cA : ∀ b ∈ C, b ∈ A' := fun b hb => p.symm.subset (List.mem_append_left _ hb)
      exact h cls dx P' H' C a.ext xr (e ▸ r) (List.nodup_append.mp (p.nodup_iff.mp a.st.nd)).1 fun b hb => ⟨a.st.off b (cA b hb), a.sub b (cA b hb)⟩
theorem fn_ok {k : Nat} {x qual : Str} {st : Stmt} {f : Addr} {fd : FuncData} {N ps : List Str} {S : Env → SRes} {L : List Nat} (F : Fun K x qual st f fd) (Sc : FnScope N ps (defScope st)) (hL : L.Nodup)
    (body : ∀ (X : Cx) (W : WX) (cdv : Value) (A : Around) (outer : List PySem.Env) (s : Shared) (H : Hp) (E : XK), X = cxOf (L2.CX P w) P w K mg base N qual (defScope st) f cdv A outer s H E → GRoom k X.A → Takes X W → PassesOwn (model X.prog X.w) X.A X.env X.xe → SsOk X W L (defBody st) S) :
    FnG P w K mg base (k + 1) f fd ps (spF ⟨K, mg⟩ ps.length L (runDef N.length L S)) := fn_okC F Sc hL fun X W cdv A outer s H E e _ => body X W cdv A outer s H E e
end

/-! ### calls -/
section
variable {X : Cx} {W : WX} {k : Nat} {f : Addr} {fd : FuncData} {ps : List Str} {sp : Sp} {x : Str} {p pos : Pos} {e : Expr} {es : List Expr}
/-- the callee runs; what it lets out is wished for here -/
theorem run_fnG {pins : List (Addr × Obj)} {σ : Sl} {H : Hp} {s : Shared} {Q : VK} {us : List Value} {vs : List V} (F : FnG X.prog X.w X.K X.mg X.base k f fd ps sp) (hr : GRoom k X.A) (hb : Binds X.K fd ps []) (tk : Takes X W)
    (I : Inv X pins σ H s) (r : Vals vs us) (h : sp vs H Q fun cls d H' => W cls d σ H') : wpAny (model X.prog X.w) X.A (call (.ref f) us) (EP X pins σ Q) X.xe s := by
  have lens := F.len _ _ _ _ h
  have bt := hb s us I.kIn (by rw [List.append_nil, ← r.length]; exact lens)
  rw [List.append_nil] at bt
  apply wpAny_call
  apply codeAny_mono (F.run X.A X.stack s H ⟨us, []⟩ us vs Q _ hr I.env0 bt r h)
  intro res s' q
  cases res with
  | error u => exact tk u s' (XE.of_call I (fun _ _ _ z => z) q)
  | ok fl =>
    cases fl with
    | ret u => exact I.after q
    | next => exact q.elim
    | brk => exact q.elim
    | cont => exact q.elim
/-- a call of a def, all it is given never changed any more -/
def sCallF (n : Nat) (φ : List D → FR) (S : Env → Res (List D)) : Env → Res D := fun ρ => (S ρ).bind fun ds => if ds.length = n then (match φ (frzL ds) with
  | .ok d _ => .ok d
  | .exc x _ => .exc x
  | .bad => .bad) else .bad
theorem give_ext0 {P H P1 H1 : Hp} {B : List Addr} (u : Under P H) (e : Ext P H P1 H1 []) (f : Fresh P1 H B) : Ext P H (give P1 H1 B) H1 [] ∧ Same P1 (give P1 H1 B) := by
  have g := give_ext (A := B) e.und fun b hb => (f.2 b hb).2
  refine ⟨⟨e.same.trans g.same, g.und, e.keep, e.lck, fun b w q => ?_⟩, g.same⟩
  rcases g.new b w q with z | z | z
  · exact e.new b w z
  · exact .inr (.inl (e.free u z))
  · exact .inr (.inl (f.2 b z).1)
/-- the promise at frozen arguments -/
theorem spF_of {G : Gd} {φ : List D → FR} {n : Nat} {P H P1 H1 : Hp} {vs : List V} {ds : List D} {B : List Addr} {Q : VK} {E : XK} {W : WX} {σ : Sl} (u : Under P H) (mk : Marks G P) (e : Ext P H P1 H1 []) (r : RelL G P1 H1 vs ds B) (f : Fresh P1 H B) (hn : vs.length = n)
    (h : match φ (frzL ds) with
      | .ok d _ => Post G P H Q d
      | .exc x _ => PostX G P H W σ x
      | .bad => False) (hE : ∀ cls d H', W cls d σ H' → E cls d H') : spF G n [] φ vs H1 Q E := by
  obtain ⟨e2, sm⟩ := give_ext0 u e f
  refine ⟨hn, give P1 H1 B, frzL ds, [], e2.und, mk.mono e2.same, r.frz sm fun b hb => give_in hb, List.nodup_nil, fun b hb => by simp at hb, ?_⟩
  cases hφ : φ (frzL ds) with
  | bad => rw [hφ] at h; exact h.elim
  | ok d os =>
    rw [hφ] at h
    intro v P' H' B' C e3 rv rc nd fr
    refine h v P' H' B' (e2.trans u e3) rv ⟨(List.nodup_append.mp nd).1, fun b hb => ?_⟩
    obtain ⟨q1, q2⟩ := fr b (List.mem_append_left _ hb)
    rcases q2 with z | z
    · exact ⟨e2.free u z, q1⟩
    · simp at z
  | exc x os =>
    rw [hφ] at h
    intro cls dx P' H' C e3 xr rc nd fr
    exact hE _ _ _ (h cls dx P' H' (e2.trans u e3) xr)
theorem callF_post {n : Nat} {φ : List D → FR} {S : Env → Res (List D)} {P H : Hp} {ρ : Env} {Q : VK} {σ : Sl} {ds : List D} (hs : S ρ = .ok ds) (h : match sCallF n φ S ρ with
      | .ok d => Post (gd X) P H Q d
      | .exc x => PostX (gd X) P H W σ x
      | .bad => False) : ds.length = n ∧ match φ (frzL ds) with
      | .ok d _ => Post (gd X) P H Q d
      | .exc x _ => PostX (gd X) P H W σ x
      | .bad => False := by
  unfold sCallF at h
  simp only [hs, Res.bind] at h
  by_cases hn : ds.length = n
  · rw [if_pos hn] at h
    refine ⟨hn, ?_⟩
    cases hφ : φ (frzL ds) <;> simp only [hφ] at h <;> exact h
  · rw [if_neg hn] at h; exact h.elim
theorem RelL.len2 {G : Gd} {P H : Hp} {vs : List V} {ds : List D} {A : List Addr} (r : RelL G P H vs ds A) : ds.length = vs.length := r.length.symm
/-- f(e, ..) -/
theorem e_call {φ : List D → FR} {S : Env → Res (List D)} (F : FnG X.prog X.w X.K X.mg X.base k f fd ps (spF (gd X) ps.length [] φ)) (hr : GRoom k X.A) (hm : X.mg x = some (.ref f)) (hk : PySem.W.keepIn X.K (.ref f) = true) (hb : Binds X.K fd ps []) (tk : Takes X W)
    (ha : AOk X W (e :: es) S) (hg : Gl X x := by rfl) (hdb : (x == ("__debug__" : Str)) = false := by decide) (he : starEach (e :: es) X.env = (false, eval e X.env) :: starEach es X.env := by rfl) (hpl : (backTo pos (starEach es X.env)).any (·.1) = false := by rfl) :
    EOk X W (.Call (.Name x p) (e :: es) [] pos) (sCallF ps.length φ S) := ⟨⟨fun pins s σ H Q I ⟨P, ρ, A, st, h⟩ => by
  have ht : tL (gd X) W S σ H fun vs H1 => spF (gd X) ps.length [] φ vs H1 Q fun cls d H' => W cls d σ H' := by
    refine ⟨P, ρ, A, st, ?_⟩
    cases hs : S ρ with
    | bad => simp only [sCallF, hs, Res.bind] at h
    | exc z => simp only [sCallF, hs, Res.bind] at h; exact h
    | ok ds =>
      obtain ⟨hn, h'⟩ := callF_post hs h
      exact fun vs P1 H1 B e1 r f => spF_of st.und st.mks e1 r f (r.length.trans hn) h' fun _ _ _ z => z
  apply wpAny_Call_Name_kw
  refine ld_glob I hg hm ?_ hdb
  refine PySem.W.callWith_K (h₀ := X.base) I.ok.mod.kin hk ?_ he hpl
  apply thn (ha.pa.run pos pins s σ H _ I ht)
  intro us s1 ⟨vs, H1, I1, r, q⟩
  exact ⟨I1.kIn, run_fnG F hr hb tk I1 r q⟩⟩⟩
/-- f() -/
theorem e_call0 {φ : List D → FR} (F : FnG X.prog X.w X.K X.mg X.base k f fd ps (spF (gd X) ps.length [] φ)) (hr : GRoom k X.A) (hm : X.mg x = some (.ref f)) (hk : PySem.W.keepIn X.K (.ref f) = true) (hb : Binds X.K fd ps []) (tk : Takes X W)
    (hg : Gl X x := by rfl) (hdb : (x == ("__debug__" : Str)) = false := by decide) : EOk X W (.Call (.Name x p) [] [] pos) (sCallF ps.length φ sNil) := ⟨⟨fun pins s σ H Q I ⟨P, ρ, A, st, h⟩ => by
  obtain ⟨hn, h'⟩ := callF_post (ds := []) (S := sNil) rfl h
  apply wpAny_Call_Name_kw
  refine ld_glob I hg hm ?_ hdb
  refine PySem.W.callWith_K0 I.kIn hk ?_
  exact run_fnG (us := []) F hr hb tk I .nil (spF_of st.und st.mks (Ext.refl st.und) .nil Fresh.nil hn h' fun _ _ _ z => z)⟩⟩
end
end RL

/-! RL: the law's own head. -/
namespace RL
open PySem PySem.Spec PyProof.Rows L2
section
variable {P : Program} {w : World} {K : PySem.W.Frag} {mg mb : Str → Option Value} {k : Nat} {fa a : Addr} {fd : FuncData} {x : Str} {φ : List D → FR} {s : Shared} {vs : List Value} {ns : List Int}
theorem look_mem {α : Type} {a : Addr} {b : α} : ∀ {l : List (Addr × α)}, l.lookup a = some b → (a, b) ∈ l
  | [], h => by simp at h
  | (c, d) :: l, h => by
    rw [List.lookup_cons] at h
    by_cases e : a = c
    · subst e
      simp at h
      simp [h]
    · have : (a == c) = false := by simpa using e
      rw [this] at h
      exact List.mem_cons_of_mem _ (look_mem h)
/-- the tables of the code objects, ahead of the law -/
structure CtabOk (K : PySem.W.Frag) (h : Heap) : Prop where
  empty : ∀ p ∈ tabsOf K, h.get? p.1 = some { cls := .none, data := .fields #[] }
  out : ∀ p ∈ tabsOf K, K.lookup p.1 = none
  one : ∀ p ∈ tabsOf K, ∀ p' ∈ tabsOf K, p.1 = p'.1 → p = p'
  code : ∀ p ∈ tabsOf K, ∃ c, PySem.W.CodeHd h c p.1
theorem CtabOk.keeps {K : PySem.W.Frag} {h h' : Heap} (t : CtabOk K h) (k : ∀ b o, h.get? b = some o → h'.get? b = some o) : CtabOk K h' where
  empty := fun p hp => k _ _ (t.empty p hp)
  out := t.out
  one := t.one
  code := fun p hp => by
    obtain ⟨c, o, us, file, tf, flags, tg, inF, text, tt, e1, r⟩ := t.code p hp
    exact ⟨c, o, us, file, tf, flags, tg, inF, text, tt, k _ _ e1, r⟩
/-- what the making of a lambda asks -/
def TabsB (K : PySem.W.Frag) (mg : Str → Option Value) (base : Heap) : Prop := ∀ p ∈ tabsOf K, base.BuiltinsAt mg p.1 ∧ mainGlobals ≠ p.1 ∧ K.lookup p.1 = none
/-- the law is called where just the script and the tables are tracked, or the tables alone -/
theorem enter {H Pk : Hp} (KX : K.In s.heap) (hns : s.heap.Ns mainGlobals mg) (hb : s.heap.Ns builtinsNs mb) (hbb : ∀ x : Str, x ≠ "__name__" → mb x = bootBuiltins x) (hlim : s.heap.NoLimit) (hg : s.gens = #[]) (T : CtabOk K s.heap)
    (hbm : ∃ (bm : Addr) (ob : Obj), mg "__builtins__" = some (.ref bm) ∧ bm ≠ builtinsNs ∧ s.heap.get? bm = some ob ∧ ob.cls = .type "module" ∧ ob.dict = some builtinsNs ∧ ob.data = .plain)
    (ha : s.heap.get? a = some { cls := .type "list", data := .seq vs.toArray }) (hr : GRoom k callerA) (F : ∀ base : Heap, K.In base → base.Ns mainGlobals mg → TabsB K mg base → FnG P w K mg base k fa fd [x] (spF ⟨K, mg⟩ 1 [] φ))
    (hbind : ∀ (s : Shared) (u : Value), BindsTo s fd ⟨[u], []⟩ [(x, u)]) (hφ : ∃ os, φ [.scr ns] = .ok (.bl true) os) (hS : SqL K Pk a (ns.map V.int)) (hok : HOk P w H s.heap) (und : Under Pk H) (mks : Marks ⟨K, mg⟩ Pk)
    (only : ∀ b u, H b = some u → (b = a ∧ ∃ o ys, u = .frz o (.lst ys)) ∨ (b ∈ (tabsOf K).map (·.1) ∧ u = .tbl #[])) (tbl : ∀ p ∈ tabsOf K, H p.1 = some (.tbl #[])) (free : ∀ o ys, H a = some (.frz o ys) → K.lookup a = none) :
    codeAny (model P w) callerA (.call (.ref fa) ⟨[.ref a], []⟩) (fun r s' => r = .ok (.ret (.bool true)) ∧ OldK s.heap s'.heap ∧ s'.os = s.os ∧ AllBare s'.gens) s := by
  have isT : ∀ b ∈ (tabsOf K).map (·.1), s.heap.get? b = some { cls := .none, data := .fields #[] } := by
    intro b q
    obtain ⟨p, hp, rfl⟩ := List.mem_map.mp q
    exact T.empty p hp
  have away : ∀ {b : Addr} {o : Obj}, s.heap.get? b = some o → b ≠ a → b ∉ (tabsOf K).map (·.1) → (hidT s.heap H).get? b = some o := by
    intro b o q ne nt
    apply hidT_get q
    cases z : H b with
    | none => rfl
    | some u =>
      rcases only b u z with ⟨e, _⟩ | ⟨e, _⟩
      · exact absurd e ne
      · exact absurd e nt
  have spare : ∀ {b : Addr} {o : Obj}, s.heap.get? b = some o → (∀ vs n, o.data ≠ .seq vs n) → o.data ≠ .fields #[] → b ≠ a ∧ b ∉ (tabsOf K).map (·.1) := by
    intro b o q d1 d2
    constructor
    · rintro rfl
      rw [ha] at q
      cases q
      exact d1 _ _ rfl
    · intro z
      rw [isT b z] at q
      cases q
      exact d2 rfl
  have space : ∀ {b : Addr} {m : Str → Option Value}, s.heap.Ns b m → (hidT s.heap H).Ns b m := by
    rintro b m ⟨o, es, ep, q, d, rest⟩
    obtain ⟨n1, n2⟩ := spare q (by intro _ _ z; rw [d] at z; cases z) (by intro z; rw [d] at z; cases z)
    exact ⟨o, es, ep, away q n1 n2, d, rest⟩
  have kin : K.In (hidT s.heap H) := by
    intro b o q
    have nt : b ∉ (tabsOf K).map (·.1) := by
      intro z
      obtain ⟨p, hp, rfl⟩ := List.mem_map.mp z
      rw [T.out p hp] at q
      cases q
    by_cases ne : b = a
    · subst ne
      apply hidT_get (KX _ _ q)
      cases z : H b with
      | none => rfl
      | some u =>
        rcases only b u z with ⟨_, o, ys, rfl⟩ | ⟨e, _⟩
        · rw [free o _ z] at q; cases q
        · exact absurd e nt
    · exact away (KX _ _ q) ne nt
  have md : Mod K mg (hidT s.heap H) := by
    obtain ⟨mc, l1, l2⟩ := hlim
    exact ⟨kin, space hns, ⟨mb, space hb, hbb⟩, ⟨mc, space l1, l2⟩⟩
  have env : Env0 P w K mg (hidT s.heap H) callerA [] s H := by
    refine ⟨rfl, md, fun b o q => of_hidT q, Nat.le_of_eq (hidT_size _ _), trivial, ?_, hok, .of_eq hg⟩
    intro b hb
    cases hb
  have tb : TabsB K mg (hidT s.heap H) := by
    intro p hp
    have e0 := T.empty p hp
    obtain ⟨bm, ob, b1, b2, b3, b4, b5, b6⟩ := hbm
    have nG : bm ≠ mainGlobals := by
      rintro rfl
      obtain ⟨o, es, ep, e, hd, _⟩ := hns
      rw [e] at b3
      cases b3
      rw [hd] at b6
      cases b6
    have nP : bm ≠ p.1 := by
      intro q
      rw [q, e0] at b3
      cases b3
      cases b6
    obtain ⟨n1, n2⟩ := spare b3 (by intro _ _ z; rw [b6] at z; cases z) (by intro z; rw [b6] at z; cases z)
    refine ⟨⟨bm, ob, b1, b2, nG, nP, away b3 n1 n2, b4, b5, b6⟩, ?_, T.out p hp⟩
    intro z
    obtain ⟨o, es, ep, e, hd, _⟩ := hns
    rw [z, e0] at e
    cases e
    cases hd
  have prom : spF ⟨K, mg⟩ 1 [] φ [.ref a] H (fun v _ => v = .bl true) fun _ _ _ => False := by
    obtain ⟨os, hφ⟩ := hφ
    refine ⟨rfl, Pk, [.scr ns], [], und, mks, .cons (A := []) (B := []) (.scr hS) .nil, List.nodup_nil, fun b hb => by simp at hb, ?_⟩
    rw [hφ]
    intro v P' H' B C _ r _ _ _
    cases r
    rfl
  apply codeAny_mono ((F _ kin (space hns) tb).run callerA [] s H ⟨[.ref a], []⟩ [.ref a] [.ref a] _ _ hr env (hbind s (.ref a)) (.cons rfl .nil) prom)
  intro r s' h
  cases r with
  | error e =>
    obtain ⟨_, _, _, _, _, _, _, _, _, _, _, _, z⟩ := h
    exact z.elim
  | ok fl =>
    cases fl with
    | next => exact h.elim
    | brk => exact h.elim
    | cont => exact h.elim
    | ret u =>
      obtain ⟨v, H', os, bare, un, hok', rv, e⟩ := h
      have e : v = .bl true := e
      subst e
      have e : u = Value.bool true := rv
      subst e
      have same : ∀ b o, b ∉ (tabsOf K).map (·.1) → s.heap.get? b = some o → s'.heap.get? b = some o := by
        intro b o nt q
        cases z : H b with
        | none =>
          apply un.keep b o q z
          · intro y; cases y
          · intro y; cases y
        | some u =>
          rcases only b u z with ⟨rfl, ob, ys, rfl⟩ | ⟨e, _⟩
          · have z2 := un.frzs _ _ _ z
            have h1 := (hok _ _ z).1
            have h2 := (hok' _ _ z2).1
            rw [q] at h1
            cases h1
            exact h2
          · exact absurd e nt
      have grown : ∀ p ∈ tabsOf K, ∃ more : Array Value, s'.heap.get? p.1 = some { cls := .none, data := .fields more } := by
        intro p hp
        obtain ⟨more, z⟩ := un.tbls p.1 #[] (tbl p hp)
        exact ⟨_, hok' p.1 _ z⟩
      refine ⟨rfl, ⟨?_, ?_⟩, os, bare⟩
      · intro b o q
        by_cases nt : b ∈ (tabsOf K).map (·.1)
        · obtain ⟨p, hp, rfl⟩ := List.mem_map.mp nt
          obtain ⟨more, hm⟩ := grown p hp
          obtain ⟨c, C⟩ := T.code p hp
          rw [T.empty p hp] at q
          cases q
          refine .inr (.inl ⟨(C.tab (T.empty p hp)).isCodeTable, rfl, #[], more, rfl, ?_⟩)
          rw [Array.empty_append]
          exact hm
        · exact .inl (same b o nt q)
      · intro b o q
        by_cases nt : b ∈ (tabsOf K).map (·.1)
        · obtain ⟨p, hp, rfl⟩ := List.mem_map.mp nt
          obtain ⟨more, hm⟩ := grown p hp
          exact ⟨_, hm⟩
        · exact ⟨o, same b o nt q⟩
theorem enters (KX : K.In s.heap) (hns : s.heap.Ns mainGlobals mg) (hb : s.heap.Ns builtinsNs mb) (hbb : ∀ x : Str, x ≠ "__name__" → mb x = bootBuiltins x) (hlim : s.heap.NoLimit) (hg : s.gens = #[]) (T : CtabOk K s.heap)
    (hbm : ∃ (bm : Addr) (ob : Obj), mg "__builtins__" = some (.ref bm) ∧ bm ≠ builtinsNs ∧ s.heap.get? bm = some ob ∧ ob.cls = .type "module" ∧ ob.dict = some builtinsNs ∧ ob.data = .plain)
    (ha : s.heap.get? a = some { cls := .type "list", data := .seq vs.toArray }) (hi : IntsAre vs ns) (hl : ns.length ≤ sizeLine) (hr : GRoom k callerA) (F : ∀ base : Heap, K.In base → base.Ns mainGlobals mg → TabsB K mg base → FnG P w K mg base k fa fd [x] (spF ⟨K, mg⟩ 1 [] φ))
    (hbind : ∀ (s : Shared) (u : Value), BindsTo s fd ⟨[u], []⟩ [(x, u)]) (hφ : ∃ os, φ [.scr ns] = .ok (.bl true) os) :
    codeAny (model P w) callerA (.call (.ref fa) ⟨[.ref a], []⟩) (fun r s' => r = .ok (.ret (.bool true)) ∧ OldK s.heap s'.heap ∧ s'.os = s.os ∧ AllBare s'.gens) s := by
  have rel := vals_ints hi
  have size := hi.length
  have nat : a ∉ (tabsOf K).map (·.1) := by
    intro z
    obtain ⟨p, hp, e⟩ := List.mem_map.mp z
    have q := T.empty p hp
    rw [e, ha] at q
    cases q
  have lk : ∀ p ∈ tabsOf K, (tabsOf K).lookup p.1 = some p.2 := by
    intro p hp
    cases q : (tabsOf K).lookup p.1 with
    | none =>
      have := List.lookup_eq_none_iff.mp q p hp
      simp at this
    | some y =>
      have hm : (p.1, y) ∈ tabsOf K := look_mem q
      have e := T.one p hp (p.1, y) hm rfl
      rw [e]
  let o : Obj := { cls := .type "list", data := .seq vs.toArray }
  let base : Hp := fun b => if b ∈ (tabsOf K).map (·.1) then some (.tbl #[]) else none
  let baseP : Hp := fun b => ((tabsOf K).lookup b).map mark
  have base_in : ∀ {b}, b ∈ (tabsOf K).map (·.1) → base b = some (.tbl #[]) := fun h => if_pos h
  have base_out : ∀ {b}, b ∉ (tabsOf K).map (·.1) → base b = none := fun h => if_neg h
  have baseP_out : ∀ {b}, b ∉ (tabsOf K).map (·.1) → baseP b = none := by
    intro b h
    show ((tabsOf K).lookup b).map mark = none
    cases q : (tabsOf K).lookup b with
    | none => rfl
    | some y => exact absurd (List.mem_map.mpr ⟨(b, y), look_mem q, rfl⟩) h
  have und0 : ∀ b u, baseP b = some u → ∃ q ps, u = mark q ∧ base b = some (.tbl ps) ∧ TriplesOk ps.toList ∧ ∀ (pos : Pos) (cv : Value), codeAmong pos ps.toList = some cv → False := by
    intro b u z
    have z : ((tabsOf K).lookup b).map mark = some u := z
    cases q : (tabsOf K).lookup b with
    | none => rw [q] at z; cases z
    | some y =>
      rw [q] at z
      cases z
      refine ⟨y, #[], rfl, base_in (List.mem_map.mpr ⟨(b, y), look_mem q, rfl⟩), True.intro, fun pos cv hc => ?_⟩
      have hc : codeAmong pos [] = some cv := hc
      simp [codeAmong] at hc
  have mk0 : ∀ p ∈ tabsOf K, baseP p.1 = some (mark p.2) := by
    intro p hp
    show ((tabsOf K).lookup p.1).map mark = _
    rw [lk p hp]
    rfl
  have inT : ∀ p ∈ tabsOf K, p.1 ∈ (tabsOf K).map (·.1) := fun p hp => List.mem_map.mpr ⟨p, hp, rfl⟩
  have nea : ∀ p ∈ tabsOf K, p.1 ≠ a := fun p hp e => nat (e ▸ inT p hp)
  have isT : ∀ b ∈ (tabsOf K).map (·.1), s.heap.get? b = some { cls := .none, data := .fields #[] } := by
    intro b q
    obtain ⟨p, hp, rfl⟩ := List.mem_map.mp q
    exact T.empty p hp
  cases q : K.lookup a with
  | none =>
    have at_a : upd base a (.frz o (.lst (ns.map V.int))) a = some (.frz o (.lst (ns.map V.int))) := upd_same
    refine enter (H := upd base a (.frz o (.lst (ns.map V.int)))) (Pk := upd baseP a (.frz o (.lst (ns.map V.int)))) KX hns hb hbb hlim hg T hbm ha hr F hbind hφ (.inl (.inr ⟨o, upd_same⟩)) ?_ ?_ ?_ ?_ ?_ ?_
    · intro b u z
      by_cases e : b = a
      · subst e
        rw [upd_same] at z
        cases z
        exact ⟨ha, by rw [List.length_map]; exact hl, vs, _, rel, ha⟩
      · rw [upd_ne e] at z
        by_cases h2 : b ∈ (tabsOf K).map (·.1)
        · rw [base_in h2] at z
          cases z
          exact isT b h2
        · rw [base_out h2] at z
          cases z
    · intro b u z
      by_cases e : b = a
      · subst e
        rw [upd_same] at z ⊢
        exact .inl z
      · rw [upd_ne e] at z ⊢
        obtain ⟨y, ps, e1, e2, e3, e4⟩ := und0 b u z
        exact .inr (.inr ⟨y, ps, e1, e2, e3, fun pos cv hc => (e4 pos cv hc).elim⟩)
    · intro p hp
      rw [upd_ne (nea p hp)]
      exact mk0 p hp
    · intro b u z
      by_cases e : b = a
      · subst e
        rw [upd_same] at z
        cases z
        exact .inl ⟨rfl, _, _, rfl⟩
      · rw [upd_ne e] at z
        by_cases h2 : b ∈ (tabsOf K).map (·.1)
        · rw [base_in h2] at z
          cases z
          exact .inr ⟨h2, rfl⟩
        · rw [base_out h2] at z
          cases z
    · intro p hp
      rw [upd_ne (nea p hp)]
      exact base_in (inT p hp)
    · intro _ _ _
      exact q
  | some ob =>
    have e := KX a ob q
    rw [ha] at e
    cases e
    refine enter (H := base) (Pk := baseP) KX hns hb hbb hlim hg T hbm ha hr F hbind hφ (.inr ⟨_, vs.toArray, _, q, rfl, rfl, rfl, ?_, ?_⟩) ?_ ?_ ?_ ?_ ?_ ?_
    · rw [List.size_toArray, size]; exact hl
    · simpa using rel
    · intro b u z
      by_cases h2 : b ∈ (tabsOf K).map (·.1)
      · rw [base_in h2] at z
        cases z
        exact isT b h2
      · rw [base_out h2] at z
        cases z
    · intro b u z
      obtain ⟨y, ps, e1, e2, e3, e4⟩ := und0 b u z
      exact .inr (.inr ⟨y, ps, e1, e2, e3, fun pos cv hc => (e4 pos cv hc).elim⟩)
    · exact mk0
    · intro b u z
      by_cases h2 : b ∈ (tabsOf K).map (·.1)
      · rw [base_in h2] at z
        cases z
        exact .inr ⟨h2, rfl⟩
      · rw [base_out h2] at z
        cases z
    · exact fun p hp => base_in (inT p hp)
    · intro o' ys z
      rw [base_out nat] at z
      cases z
end
/-- a law's walk, by a pure promise -/
theorem walkG {l : PySem.W.OpenLaw} {n k : Nat} {q : Program} {loose : List Str} {XP : (Str → Option Value) → Heap → Prop} {YP : World → Heap → Prop} {d : DefRec} {x : Str} (hn : l.most = some n) (hn2 : n ≤ sizeLine) (hdf : d.params.defaults = []) (hr : Room k callerA)
    (F : ∀ (w : World) (mg : Str → Option Value) (fa : Addr) (h : Heap), YP w h → h.Ns mainGlobals mg → mg d.name = some (.ref fa) → ∃ (K : PySem.W.Frag) (fd : FuncData) (φ : List D → FR), K.In h ∧ CtabOk K h ∧ (∀ (s : Shared) (u : Value), BindsTo s fd ⟨[u], []⟩ [(x, u)]) ∧
      (∀ ns : List Int, ns.length ≤ n → ∃ os, φ [.scr ns] = .ok (.bl true) os) ∧ ∀ base : Heap, K.In base → base.Ns mainGlobals mg → TabsB K mg base → FnG l.prog w K mg base k fa fd [x] (spF ⟨K, mg⟩ 1 [] φ)) :
    PySem.W.WalkO q loose XP YP l.row.toRowW d [] fun f vs => PySem.call f vs := by
  apply Att.attach_call hn hdf
  intro w s₀ s₁ mg mb fa o pm cd doc a vs ns G Y ho hd hcd hmg hobj hints hlen hg
  obtain ⟨K, fd, φ, KX, TK, hb, hφ, hF⟩ := F w mg fa _ Y G.T.g hmg
  exact enters KX G.T.g G.T.b G.T.builtins G.T.nolimit hg TK G.T.bmain hobj hints (Nat.le_trans hlen hn2) ⟨hr, rfl⟩ hF hb (hφ ns hlen)
end RL

/-! RL: repr of data. -/
namespace RL
open PySem PySem.Spec PyProof.Rows L2
/-! ### what can be shown: no objects, ints of moderate size, no greater depth than n -/
def keySml : Key → Bool
  | .inl i => sml i
  | .inr x => PyData.strOk x
def repN : Nat → D → Bool
  | _, .non => true
  | _, .bl _ => true
  | _, .int i => sml i
  | _, .str x => PyData.strOk x
  | n + 1, .tup ds => ds.all (repN n)
  | n + 1, .lst _ ds => ds.all (repN n)
  | n + 1, .dct _ ks ds => ks.all keySml && ds.all (repN n)
  | _, _ => false
mutual
def noDct : D → Bool
  | .tup ds => noDctL ds
  | .lst _ ds => noDctL ds
  | .dct _ _ _ => false
  | _ => true
def noDctL : List D → Bool
  | [] => true
  | d :: ds => noDct d && noDctL ds
end
mutual
def noLst : D → Bool
  | .tup ds => noLstL ds
  | .lst _ _ => false
  | .dct _ _ ds => noLstL ds
  | _ => true
def noLstL : List D → Bool
  | [] => true
  | d :: ds => noLst d && noLstL ds
end
mutual
/-- no less than the text's length -/
def costD : D → Nat
  | .int _ => 1910
  | .str x => 10 * x.length + 2
  | .tup ds => costL ds + 4
  | .lst _ ds => costL ds + 4
  | .dct _ ks ds => costK ks + costL ds + 4
  | _ => 5
def costL : List D → Nat
  | [] => 0
  | d :: ds => costD d + 2 + costL ds
def costK : List Key → Nat
  | [] => 0
  | .inl _ :: ks => 1912 + costK ks
  | .inr x :: ks => 10 * x.length + 4 + costK ks
end
theorem showableAll_of : ∀ {ds : List PyData}, (∀ d ∈ ds, d.showable = true) → PyData.showableAll ds = true
  | [], _ => rfl
  | d :: ds, h => by
    rw [PyData.showableAll, h d List.mem_cons_self, showableAll_of fun e he => h e (List.mem_cons_of_mem _ he)]
    rfl
theorem showableKv_of : ∀ {ks : List Key} {ds : List PyData}, (∀ k ∈ ks, keySml k = true) → (∀ d ∈ ds, d.showable = true) → PyData.showableKv ((ks.map keyPy).zip ds) = true
  | [], _, _, _ => by simp [PyData.showableKv]
  | _ :: _, [], _, _ => by simp [PyData.showableKv]
  | k :: ks, d :: ds, h, h' => by
    have hk : (keyPy k).showable = true := by
      have := h k List.mem_cons_self
      cases k with
      | inl i => simp only [keySml, sml, decide_eq_true_eq] at this; simp only [keyPy, PyData.showable, decide_eq_true_eq]; omega
      | inr x => simp [keyPy, PyData.showable]
    rw [List.map_cons, List.zip_cons_cons, PyData.showableKv, hk, h' d List.mem_cons_self, showableKv_of (fun e he => h e (List.mem_cons_of_mem _ he)) fun e he => h' e (List.mem_cons_of_mem _ he)]
    rfl
theorem depthKv_of {n : Nat} : ∀ {ks : List Key} {ds : List PyData}, (∀ d ∈ ds, d.depth ≤ n) → PyData.depthKv ((ks.map keyPy).zip ds) ≤ n
  | [], _, _ => by simp [PyData.depthKv]
  | _ :: _, [], _ => by simp [PyData.depthKv]
  | k :: ks, d :: ds, h => by
    have h1 := h d List.mem_cons_self
    have h2 := depthKv_of (ks := ks) fun e he => h e (List.mem_cons_of_mem d he)
    have h3 : (keyPy k).depth = 0 := by cases k <;> simp [keyPy, PyData.depth]
    simp only [List.map_cons, List.zip_cons_cons, PyData.depthKv]
    omega
theorem repN_ok : ∀ {n : Nat} {d : D}, repN n d = true → d.py.showable = true ∧ d.py.depth ≤ n + 1
  | n, .non, _ => by simp [D.py, PyData.showable, PyData.depth]
  | n, .bl b, _ => by simp [D.py, PyData.showable, PyData.depth]
  | n, .str b, _ => by simp [D.py, PyData.showable, PyData.depth]
  | n, .int i, h => by
    have h' : sml i = true := by cases n <;> simpa [repN] using h
    simp only [sml, decide_eq_true_eq] at h'
    refine ⟨?_, by simp [D.py, PyData.depth]⟩
    simp only [D.py, PyData.showable, decide_eq_true_eq]; omega
  | 0, .tup ds, h => by simp [repN] at h
  | n + 1, .tup ds, h => by
    have h' : ∀ d ∈ ds, repN n d = true := by simpa [repN] using h
    have q : ∀ d ∈ ds.map D.py, d.showable = true ∧ d.depth ≤ n + 1 := fun d hd => by
      obtain ⟨e, he, rfl⟩ := List.mem_map.mp hd
      exact repN_ok (h' e he)
    simp only [D.py, pyL_eq, PyData.showable, PyData.depth]
    have := depthAll_of fun d hd => (q d hd).2
    exact ⟨showableAll_of fun d hd => (q d hd).1, by omega⟩
  | 0, .lst _ ds, h => by simp [repN] at h
  | n + 1, .lst _ ds, h => by
    have h' : ∀ d ∈ ds, repN n d = true := by simpa [repN] using h
    have q : ∀ d ∈ ds.map D.py, d.showable = true ∧ d.depth ≤ n + 1 := fun d hd => by
      obtain ⟨e, he, rfl⟩ := List.mem_map.mp hd
      exact repN_ok (h' e he)
    simp only [D.py, pyL_eq, PyData.showable, PyData.depth]
    have := depthAll_of fun d hd => (q d hd).2
    exact ⟨showableAll_of fun d hd => (q d hd).1, by omega⟩
  | 0, .dct _ _ ds, h => by simp [repN] at h
  | n + 1, .dct _ ks ds, h => by
    have h' : (∀ k ∈ ks, keySml k = true) ∧ ∀ d ∈ ds, repN n d = true := by simpa [repN] using h
    have q : ∀ d ∈ ds.map D.py, d.showable = true ∧ d.depth ≤ n + 1 := fun d hd => by
      obtain ⟨e, he, rfl⟩ := List.mem_map.mp hd
      exact repN_ok (h'.2 e he)
    simp only [D.py, pyL_eq, PyData.showable, PyData.depth]
    have := depthKv_of (ks := ks) fun d hd => (q d hd).2
    exact ⟨showableKv_of h'.1 fun d hd => (q d hd).1, by omega⟩
  | 0, .obj _ _ _ _, h => by simp [repN] at h
  | n + 1, .obj _ _ _ _, h => by simp [repN] at h
  | 0, .exn _ _ _, h => by simp [repN] at h
  | n + 1, .exn _ _ _, h => by simp [repN] at h
  | 0, .scr _, h => by simp [repN] at h
  | n + 1, .scr _, h => by simp [repN] at h
  | 0, .tux _, h => by simp [repN] at h
  | n + 1, .tux _, h => by simp [repN] at h
/-! ### how long the text is -/
theorem piledL_le (f : PyData → Nat) : ∀ {ds : List PyData}, (∀ d ∈ ds, d.shown.length ≤ f d) → piled (PyData.shownAll ds) ≤ (ds.map fun d => f d + 2).sum
  | [], _ => by simp [PyData.shownAll, piled]
  | d :: ds, h => by
    have h1 := h d List.mem_cons_self
    have h2 := piledL_le f fun e he => h e (List.mem_cons_of_mem d he)
    simp only [PyData.shownAll, List.map_cons, List.sum_cons]
    have e : piled (d.shown :: PyData.shownAll ds) = d.shown.length + 2 + piled (PyData.shownAll ds) := by simp [piled]
    omega
theorem joined_le (ts : List Str) : (Str.join ", " ts).length ≤ piled ts := by
  by_cases h : ts = []
  · subst h; decide
  · have := join_length_add ts h
    omega
theorem brackets_le (a b : Str) (ts : List Str) (ha : a.length ≤ 2) (hb : b.length ≤ 2) : (a ++ Str.join ", " ts ++ b).length ≤ piled ts + 4 := by
  have := joined_le ts
  rw [strLen_append, strLen_append]
  omega
theorem strOk_lt {x : Str} (h : PyData.strOk x = true) : ∀ c ∈ x.cps.toList, c < 16 ^ 8 := fun c hc => by
  unfold PyData.strOk at h
  rw [← Array.all_toList] at h
  have := List.all_eq_true.mp h c hc
  have := of_decide_eq_true this
  omega
theorem keyShown_le (k : Key) (h : keySml k = true) : (keyPy k).shown.length + 2 ≤ costK [k] := by
  cases k with
  | inl i =>
    simp only [keySml, sml, decide_eq_true_eq] at h
    have e := int_text_length_le (a := i) (k := 1900) (by decide) h
    simp only [keyPy, PyData.shown, costK]
    rw [PySem.ofString_length]
    omega
  | inr x =>
    have := PySem.StrLaws.reprText_len x (strOk_lt h)
    simp only [keyPy, PyData.shown, costK]
    omega
theorem costL_eq : ∀ ds : List D, costL ds = (ds.map fun d => costD d + 2).sum
  | [] => rfl
  | d :: ds => by rw [costL, costL_eq ds, List.map_cons, List.sum_cons]
theorem piledC : ∀ {ds : List D}, (∀ d ∈ ds, d.py.shown.length ≤ costD d) → piled (PyData.shownAll (pyL ds)) ≤ costL ds
  | [], _ => by simp [pyL, PyData.shownAll, piled, costL]
  | d :: ds, h => by
    have h1 := h d List.mem_cons_self
    have h2 := piledC fun e he => h e (List.mem_cons_of_mem d he)
    simp only [pyL, PyData.shownAll, costL, piled_cons]
    omega
theorem piledK : ∀ {ks : List Key} {ds : List D}, (∀ k ∈ ks, keySml k = true) → (∀ d ∈ ds, d.py.shown.length ≤ costD d) → piled (PyData.shownKv ((ks.map keyPy).zip (pyL ds))) ≤ costK ks + costL ds
  | [], _, _, _ => by simp [PyData.shownKv, piled]
  | _ :: _, [], _, _ => by simp [PyData.shownKv, pyL, piled]
  | k :: ks, d :: ds, hk, h => by
    have h1 := h d List.mem_cons_self
    have h2 := piledK (ks := ks) (fun e he => hk e (List.mem_cons_of_mem _ he)) fun e he => h e (List.mem_cons_of_mem d he)
    have h3 := keyShown_le k (hk k List.mem_cons_self)
    have h4 : costK (k :: ks) = costK [k] + costK ks := by cases k <;> simp [costK]
    have h5 : ((": " : String) : Str).length = 2 := by decide
    simp only [pyL, List.map_cons, List.zip_cons_cons, PyData.shownKv, costL, piled_cons]
    rw [strLen_append, strLen_append]
    omega
theorem cost_ok : ∀ {n : Nat} {d : D}, repN n d = true → d.py.shown.length ≤ costD d
  | n, .non, _ => by simp only [D.py, PyData.shown, costD]; decide
  | n, .bl b, _ => by simp only [D.py, PyData.shown, costD]; cases b <;> decide
  | n, .str x, h => by
    have h' : PyData.strOk x = true := by cases n <;> simpa [repN] using h
    exact PySem.StrLaws.reprText_len x (strOk_lt h')
  | n, .int i, h => by
    have h' : sml i = true := by cases n <;> simpa [repN] using h
    have := keyShown_le (.inl i) h'
    simp only [keyPy, costK] at this
    simp only [D.py, costD]
    omega
  | 0, .tup ds, h => by simp [repN] at h
  | n + 1, .tup ds, h => by
    have h' : ∀ d ∈ ds, repN n d = true := by simpa [repN] using h
    have q := piledC fun d hd => cost_ok (h' d hd)
    simp only [D.py, PyData.shown, costD]
    unfold tupleText
    refine Nat.le_trans (brackets_le _ _ _ (by decide) (by split <;> decide)) (by omega)
  | 0, .lst _ ds, h => by simp [repN] at h
  | n + 1, .lst _ ds, h => by
    have h' : ∀ d ∈ ds, repN n d = true := by simpa [repN] using h
    have q := piledC fun d hd => cost_ok (h' d hd)
    simp only [D.py, PyData.shown, costD]
    rw [listText_eq_join]
    exact Nat.le_trans (brackets_le _ _ _ (by decide) (by decide)) (by omega)
  | 0, .dct _ _ ds, h => by simp [repN] at h
  | n + 1, .dct _ ks ds, h => by
    have h' : (∀ k ∈ ks, keySml k = true) ∧ ∀ d ∈ ds, repN n d = true := by simpa [repN] using h
    have q := piledK h'.1 fun d hd => cost_ok (h'.2 d hd)
    simp only [D.py, PyData.shown, costD]
    unfold dictText
    exact Nat.le_trans (brackets_le _ _ _ (by decide) (by decide)) (by omega)
  | 0, .obj _ _ _ _, h => by simp [repN] at h
  | n + 1, .obj _ _ _ _, h => by simp [repN] at h
  | 0, .exn _ _ _, h => by simp [repN] at h
  | n + 1, .exn _ _ _, h => by simp [repN] at h
  | 0, .scr _, h => by simp [repN] at h
  | n + 1, .scr _, h => by simp [repN] at h
  | 0, .tux _, h => by simp [repN] at h
  | n + 1, .tux _, h => by simp [repN] at h
/-! ### the data as the library reads it -/
theorem noDct_py : ∀ {d : D}, noDct d = true → d.py.hasDict = false := by
  have all : ∀ {ds : List D}, (∀ d ∈ ds, d.py.hasDict = false) → PyData.hasDictAll (pyL ds) = false := by
    intro ds
    induction ds with
    | nil => intro _; simp [pyL, PyData.hasDictAll]
    | cons d ds ih =>
      intro h
      rw [pyL, PyData.hasDictAll, h d List.mem_cons_self, ih fun e he => h e (List.mem_cons_of_mem _ he)]
      rfl
  have mem : ∀ {ds : List D}, noDctL ds = true → ∀ d ∈ ds, noDct d = true := by
    intro ds
    induction ds with
    | nil => intro _ d hd; simp at hd
    | cons e ds ih =>
      intro h d hd
      simp only [noDctL, Bool.and_eq_true] at h
      rcases List.mem_cons.mp hd with rfl | hd
      · exact h.1
      · exact ih h.2 d hd
  intro d
  have key : ∀ n (d : D), sizeOf d ≤ n → noDct d = true → d.py.hasDict = false := by
    intro n
    induction n with
    | zero => intro d hs; cases d <;> simp at hs
    | succ n ih =>
      intro d hs h
      cases d with
      | tup ds =>
        simp only [D.py, PyData.hasDict]
        refine all fun e he => ih e ?_ (mem (by simpa [noDct] using h) e he)
        have := List.sizeOf_lt_of_mem he
        simp at hs
        omega
      | lst o ds =>
        simp only [D.py, PyData.hasDict]
        refine all fun e he => ih e ?_ (mem (by simpa [noDct] using h) e he)
        have := List.sizeOf_lt_of_mem he
        simp at hs
        omega
      | dct _ _ _ => simp [noDct] at h
      | _ => simp [D.py, PyData.hasDict]
  exact key _ d (Nat.le_refl _)
/-- the module's table of modules stands in the written part: no list of ours stands there -/
def SysK (K : PySem.W.Frag) : Prop := ∃ o : Obj, K.lookup sysModules = some o ∧ ∀ its n, o.data ≠ .seq its n
theorem SysK.ne {K : PySem.W.Frag} (k : SysK K) {h : Heap} (hk : K.In h) {a : Addr} {o : Obj} {its : Array Value} {n : Nat} (e : h.get? a = some o) (d : o.data = .seq its n) : a ≠ sysModules := fun z => by
  obtain ⟨u, q, hu⟩ := k
  have := hk _ _ q
  rw [z] at e
  rw [e] at this
  cases this
  exact hu _ _ d
section
variable {X : Cx} {pins : List (Addr × Obj)} {σ : Sl} {H P : Hp} {s : Shared}
theorem keys_read {h : Heap} : ∀ {es : List DictEntry} {vs : List (Key × Value)}, Pairs (mixKind X.prog X.w) es vs → ReadsAll h (es.map (·.key)) (vs.map fun p => keyPy p.1) []
  | _, _, .nil => .nil
  | _, _, .cons (e := e) (kv := kv) hk hv t => by
    have r : Reads h e.key (keyPy kv.1) [] := by
      rcases keyIs_shape (k := kv.1) (v := e.key) hk with ⟨i, u, e1, e2⟩ | ⟨x, u, e1, e2⟩
      · rw [e1, e2]; exact .int i u
      · rw [e1, e2]; exact .str x u
    exact .cons (as := []) (bs := []) r (keys_read t)
theorem vals_read : ∀ {es : List DictEntry} {vs : List (Key × Value)}, Pairs (mixKind X.prog X.w) es vs → es.map (·.val) = vs.map (·.2)
  | _, _, .nil => rfl
  | _, _, .cons hk hv t => by rw [List.map_cons, List.map_cons, hv, vals_read t]
theorem kv_split : ∀ {ks : List Key} {xs : List V} {vs : List (Key × Value)}, ks.length = xs.length → KV (ks.zip xs) vs → vs.map (·.1) = ks ∧ Vals xs (vs.map (·.2))
  | [], [], _, _, h => by cases h; exact ⟨rfl, .nil⟩
  | [], _ :: _, _, h, _ => by simp at h
  | _ :: _, [], _, h, _ => by simp at h
  | k :: ks, x :: xs, _, hl, h => by
    cases h with
    | @cons a b l1 l2 r t =>
      obtain ⟨h1, h2⟩ := kv_split (by simpa using hl) t
      refine ⟨?_, .cons r.2 h2⟩
      rw [List.map_cons, h1, ← r.1]
mutual
theorem Rel.reads (sk : SysK X.K) (I : Inv X pins σ H s) (u : Under P H) : ∀ {n : Nat} {v : V} {d : D} {A : List Addr} {w : Value}, Rel (gd X) P H v d A → RelV v w → repN n d = true → ∃ as, Reads s.heap w d.py as ∧ sysModules ∉ as
  | n, _, _, _, _, .non, r, _ => by cases r; exact ⟨_, by rw [D.py]; exact .none, by simp⟩
  | n, _, _, _, _, .bl b, r, _ => by cases r; exact ⟨_, by rw [D.py]; exact .bool b, by simp⟩
  | n, _, _, _, _, .int i, r, _ => by obtain ⟨t, rfl⟩ := r; exact ⟨_, by rw [D.py]; exact .int i t, by simp⟩
  | n, _, _, _, _, .str i, r, _ => by obtain ⟨t, rfl⟩ := r; exact ⟨_, by rw [D.py]; exact .str i t, by simp⟩
  | 0, _, _, _, _, .tup q r, _, h => by simp [repN] at h
  | n + 1, _, _, _, _, .tup q r, e, h => by
    cases e
    obtain ⟨its, rv, ⟨o, ho, hc, m, hd⟩, _⟩ := I.tuple (u.seqT q)
    obtain ⟨as, h1, h2⟩ := RelL.reads sk I u r rv (by simpa [repN] using h)
    exact ⟨as, by rw [D.py]; exact .tuple ho hc hd (by simpa using h1), h2⟩
  | 0, _, _, _, _, .lstF q r, _, h => by simp [repN] at h
  | n + 1, _, _, _, _, .lstF q r, e, h => by
    cases e
    obtain ⟨its, rv, ⟨o, m, ho, hc, _, hd⟩, _⟩ := I.list (u.seqL (SqL.of q))
    obtain ⟨as, h1, h2⟩ := RelL.reads sk I u r rv (by simpa [repN] using h)
    exact ⟨_ :: as, by rw [D.py]; exact .list ho hc hd (by simpa using h1), fun z => (List.mem_cons.mp z).elim (fun e => sk.ne I.kIn ho hd e.symm) h2⟩
  | 0, _, _, _, _, .lstO q r, _, h => by simp [repN] at h
  | n + 1, _, _, _, _, .lstO q r, e, h => by
    cases e
    obtain ⟨its, rv, ⟨o, m, ho, hc, _, hd⟩, _⟩ := I.list (SqL.of (K := X.K) q)
    obtain ⟨as, h1, h2⟩ := RelL.reads sk I u r rv (by simpa [repN] using h)
    exact ⟨_ :: as, by rw [D.py]; exact .list ho hc hd (by simpa using h1), fun z => (List.mem_cons.mp z).elim (fun e => sk.ne I.kIn ho hd e.symm) h2⟩
  | 0, _, _, _, _, .dctF q l r, _, h => by simp [repN] at h
  | n + 1, _, _, _, _, .dctF (a := a) (ks := ks) (vs := xs) (ds := ds) q l r, e, h => by
    cases e
    have h' : ks.all keySml = true ∧ ∀ d ∈ ds, repN n d = true := by simpa [repN] using h
    have hq : Rd H a (.dK (ks.zip xs)) := by
      rcases u _ _ q with z | ⟨ob, _, _, z⟩ | ⟨_, _, z, _⟩
      · exact .inl z
      · exact .inr ⟨ob, z⟩
      · cases z
    obtain ⟨_, lo, vs, kv, o, es, ep, ho, hx, hd, _, hp, _⟩ := dk_rd I.hok hq
    obtain ⟨k1, k2⟩ := kv_split l kv
    obtain ⟨as, h1, h2⟩ := RelL.reads sk I u r k2 h'.2
    have hl : (ks.map keyPy).length = (pyL ds).length := by rw [List.length_map, l, r.length, pyL_eq, List.length_map]
    have q1 : ReadsAll s.heap (es.toList.map (·.key)) (((ks.map keyPy).zip (pyL ds)).map (·.1)) [] := by
      rw [List.map_fst_zip (by omega), ← k1, List.map_map]; exact keys_read hp
    have q2 : ReadsAll s.heap (es.toList.map (·.val)) (((ks.map keyPy).zip (pyL ds)).map (·.2)) as := by
      rw [List.map_snd_zip (by omega), vals_read hp]; exact h1
    refine ⟨[a] ++ as, by rw [D.py]; exact .dict (as := []) ho hx.1 hd q1 q2, ?_⟩
    · simp only [List.append_nil, List.cons_append, List.nil_append, List.mem_cons, not_or]
      exact ⟨fun z => by rw [← z] at lo; simp at lo, h2⟩
  | 0, _, _, _, _, .dctO q l r, _, h => by simp [repN] at h
  | n + 1, _, _, _, _, .dctO (a := a) (ks := ks) (vs := xs) (ds := ds) q l r, e, h => by
    cases e
    have h' : ks.all keySml = true ∧ ∀ d ∈ ds, repN n d = true := by simpa [repN] using h
    obtain ⟨_, lo, vs, kv, o, es, ep, ho, hx, hd, _, hp, _⟩ := dk_rd I.hok (.inl q)
    obtain ⟨k1, k2⟩ := kv_split l kv
    obtain ⟨as, h1, h2⟩ := RelL.reads sk I u r k2 h'.2
    have hl : (ks.map keyPy).length = (pyL ds).length := by rw [List.length_map, l, r.length, pyL_eq, List.length_map]
    have q1 : ReadsAll s.heap (es.toList.map (·.key)) (((ks.map keyPy).zip (pyL ds)).map (·.1)) [] := by
      rw [List.map_fst_zip (by omega), ← k1, List.map_map]; exact keys_read hp
    have q2 : ReadsAll s.heap (es.toList.map (·.val)) (((ks.map keyPy).zip (pyL ds)).map (·.2)) as := by
      rw [List.map_snd_zip (by omega), vals_read hp]; exact h1
    refine ⟨[a] ++ as, by rw [D.py]; exact .dict (as := []) ho hx.1 hd q1 q2, ?_⟩
    · simp only [List.append_nil, List.cons_append, List.nil_append, List.mem_cons, not_or]
      exact ⟨fun z => by rw [← z] at lo; simp at lo, h2⟩
  | n, _, _, _, _, .scr _, _, h => by cases n <;> simp [repN] at h
  | n, _, _, _, _, .tux _ _ _, _, h => by cases n <;> simp [repN] at h
  | n, _, _, _, _, .objF _ _ _ _, _, h => by cases n <;> simp [repN] at h
  | n, _, _, _, _, .objO _ _ _ _, _, h => by cases n <;> simp [repN] at h
  | n, _, _, _, _, .exn _ _ _, _, h => by cases n <;> simp [repN] at h
theorem RelL.reads (sk : SysK X.K) (I : Inv X pins σ H s) (u : Under P H) : ∀ {n : Nat} {vs : List V} {ds : List D} {A : List Addr} {ws : List Value}, RelL (gd X) P H vs ds A → Vals vs ws → (∀ d ∈ ds, repN n d = true) → ∃ as, ReadsAll s.heap ws (pyL ds) as ∧ sysModules ∉ as
  | n, _, _, _, _, .nil, r, _ => by cases r; exact ⟨[], by rw [pyL]; exact .nil, by simp⟩
  | n, _, _, _, _, .cons r t, e, h => by
    cases e with
    | cons e1 e2 =>
      obtain ⟨as, h1, h2⟩ := Rel.reads sk I u r e1 (h _ List.mem_cons_self)
      obtain ⟨bs, h3, h4⟩ := RelL.reads sk I u t e2 fun d hd => h d (List.mem_cons_of_mem _ hd)
      refine ⟨as ++ bs, by rw [pyL]; exact .cons h1 h3, ?_⟩
      simp only [List.mem_append, not_or]
      exact ⟨h2, h4⟩
end
end
/-- repr's meaning -/
def repOk (d : D) : Bool := repN 50 d && decide (costD d ≤ sizeLine)
def fRepr : List D → Option D
  | [d] => if repOk d = true then some (.str d.py.shown) else none
  | _ => none
theorem c_repr {X : Cx} {k : Nat} (hr : GRoom k X.A) (sk : SysK X.K) : CallR X (.builtin "repr") (rC (gd X) fRepr) := by
  intro pins s σ H xs us Q I r ⟨P, ds, B, un, rl, o, h⟩
  cases rl with
  | nil => exact h.elim
  | @cons v d A1 vs ds B1 r1 r2 =>
    cases r2 with
    | cons _ _ => exact h.elim
    | nil =>
      simp only [fRepr] at h
      by_cases c : repOk d = true
      · rw [if_pos c] at h
        simp only [repOk, Bool.and_eq_true, decide_eq_true_eq] at c
        obtain ⟨c1, c3⟩ := c
        obtain ⟨u, rfl, ru⟩ := vals1 r
        obtain ⟨s1, s2⟩ := repN_ok c1
        have hz : d.py.shown.length ≤ sizeLine := Nat.le_trans (cost_ok c1) c3
        have hQ : ∀ h' t tk, (∀ b o, s.heap.get? b = some o → h'.get? b = some o) → EP X pins σ Q (.str d.py.shown t) { s with heap := h', toks := tk } := fun h' t tk hk => ⟨.str _, H, I.kept hk, ⟨t, rfl⟩, post_val un h (.str _)⟩
        have go : ∀ a, u = .ref a → wpAny (model X.prog X.w) X.A (call (.builtin "repr") [u]) (EP X pins σ Q) X.xe s := by
          rintro a rfl
          obtain ⟨as, rd, ns⟩ := Rel.reads sk I un r1 ru c1
          refine repr_of_reads' rd s1 (fun _ => ns) hr.g (by have := hr.r.units; omega) (fun _ _ e => e) hQ hz
        cases r1 with
        | non => cases ru; exact PySem.P.repr_of_none ⟨.str _, H, I.tok _, ⟨_, rfl⟩, by have := post_val un h (.str _); simpa [D.py, PyData.shown] using this⟩
        | bl b => cases ru; exact PySem.P.repr_of_bool ⟨.str _, H, I.tok _, ⟨_, rfl⟩, by have := post_val un h (.str _); cases b <;> simpa [D.py, PyData.shown] using this⟩
        | int i =>
          obtain ⟨t, rfl⟩ := ru
          have hs : i.natAbs.log2 < 1920 := by simpa [D.py, PyData.showable] using s1
          exact PySem.P.repr_of_int hs ⟨.str _, H, I.tok _, ⟨_, rfl⟩, by have := post_val un h (.str _); simpa [D.py, PyData.shown] using this⟩
        | str x =>
          obtain ⟨t, rfl⟩ := ru
          exact PySem.P.repr_of_str ⟨.str _, H, I.tok _, ⟨_, rfl⟩, by have := post_val un h (.str _); simpa [D.py, PyData.shown] using this⟩ (by simpa [D.py, PyData.shown] using hz)
        | _ => exact go _ (by cases ru; rfl)
      · rw [if_neg c] at h; exact h.elim
end RL

/-! RL: built-in functions. -/
namespace RL
open PySem PySem.Spec PyProof.Rows L2
section
variable {X : Cx} {W : WX}
theorem CallR.imp {f : Value} {r r' : List V → Hp → VK → Prop} (h : CallR X f r) (i : ∀ xs H Q, r' xs H Q → r xs H Q) : CallR X f r' := fun pins s σ H xs us Q I rr q => h pins s σ H xs us Q I rr (i _ _ _ q)
theorem MtR.imp {id : String} {r r' : V → List V → Hp → VK → Prop} (h : MtR X id r) (i : ∀ x xs H Q, r' x xs H Q → r x xs H Q) : MtR X id r' := fun pins s σ H x xs v us Q I r1 r2 q => h pins s σ H x xs v us Q I r1 r2 (i _ _ _ _ q)
/-- one argument -/
theorem rC1 {G : Gd} {f : D → Option D} {xs : List V} {H : Hp} {Q : VK} (h : rC G (fun ds => match ds with | [d] => f d | _ => none) xs H Q) :
    ∃ v P d B z, xs = [v] ∧ Under P H ∧ Rel G P H v d B ∧ (∀ b ∈ B, P b = none) ∧ f d = some z ∧ Post G P H Q z := by
  obtain ⟨P, ds, B, un, rl, o, h⟩ := h
  cases rl with
  | nil => exact h.elim
  | @cons v d A1 vs ds B1 r1 r2 =>
    cases r2 with
    | cons _ _ => exact h.elim
    | nil =>
      cases hf : f d with
      | none => simp only [hf] at h
      | some z => simp only [hf] at h; exact ⟨v, P, d, A1, z, rfl, un, r1, fun b hb => o b (List.mem_append_left _ hb), hf, h⟩
theorem rC2 {G : Gd} {f : D → D → Option D} {xs : List V} {H : Hp} {Q : VK} (h : rC G (fun ds => match ds with | [d, e] => f d e | _ => none) xs H Q) :
    ∃ v w P d e B C z, xs = [v, w] ∧ Under P H ∧ Rel G P H v d B ∧ Rel G P H w e C ∧ f d e = some z ∧ Post G P H Q z := by
  obtain ⟨P, ds, B, un, rl, o, h⟩ := h
  cases rl with
  | nil => exact h.elim
  | @cons v d A1 vs ds B1 r1 r2 =>
    cases r2 with
    | nil => exact h.elim
    | @cons w e A2 vs ds B2 r2 r3 =>
      cases r3 with
      | cons _ _ => exact h.elim
      | nil =>
        cases hf : f d e with
        | none => simp only [hf] at h
        | some z => simp only [hf] at h; exact ⟨v, w, P, d, e, A1, A2, z, rfl, un, r1, r2, hf, h⟩
def on1 (f : D → Option D) : List D → Option D := fun ds => match ds with
  | [d] => f d
  | _ => none
def on2 (f : D → D → Option D) : List D → Option D := fun ds => match ds with
  | [d, e] => f d e
  | _ => none
def fLen : D → Option D
  | .lst _ ds => some (.int ds.length)
  | .tup ds => some (.int ds.length)
  | .scr ns => some (.int ns.length)
  | .str z => if z.length ≤ sizeLine then some (.int z.length) else none
  | _ => none
theorem c_len : CallR X (.builtin "len") (rC (gd X) (on1 fLen)) := CallR.imp (CallR.or call_len_seq call_len_str) fun xs H Q h => by
  obtain ⟨v, P, d, B, z, rfl, un, r, o, hf, q⟩ := rC1 h
  cases r with
  | tup q1 r => simp only [fLen, Option.some.injEq] at hf; subst hf; exact .inl ⟨_, _, rfl, .inr (un.seqT q1), by rw [r.length]; exact post_val un q (.int _)⟩
  | lstF q1 r => simp only [fLen, Option.some.injEq] at hf; subst hf; exact .inl ⟨_, _, rfl, .inl (un.seqL (SqL.of q1)), by rw [r.length]; exact post_val un q (.int _)⟩
  | lstO q1 r => simp only [fLen, Option.some.injEq] at hf; subst hf; exact .inl ⟨_, _, rfl, .inl (SqL.of q1), by rw [r.length]; exact post_val un q (.int _)⟩
  | scr q1 => simp only [fLen, Option.some.injEq] at hf; subst hf; exact .inl ⟨_, _, rfl, .inl (un.seqL q1), by rw [List.length_map]; exact post_val un q (.int _)⟩
  | str x =>
    simp only [fLen] at hf
    split at hf
    · rename_i c; cases hf; exact .inr ⟨_, rfl, c, post_val un q (.int _)⟩
    · cases hf
  | _ => simp [fLen] at hf
def fAbs : D → Option D
  | .int i => some (.int (if i < 0 then -i else i))
  | _ => none
theorem c_abs : CallR X (.builtin "abs") (rC (gd X) (on1 fAbs)) := CallR.imp call_abs fun xs H Q h => by
  obtain ⟨v, P, d, B, z, rfl, un, r, o, hf, q⟩ := rC1 h
  cases r <;> simp only [fAbs] at hf <;> cases hf
  exact ⟨_, rfl, post_val un q (.int _)⟩
def fMax2 : D → D → Option D
  | .int i, .int j => some (.int (if j > i then j else i))
  | _, _ => none
def fMin2 : D → D → Option D
  | .int i, .int j => some (.int (if j < i then j else i))
  | _, _ => none
theorem c_max2 (hc : X.calm = true) : CallR X (.builtin "max") (rC (gd X) (on2 fMax2)) := CallR.imp (call_max2 hc) fun xs H Q h => by
  obtain ⟨v, w, P, d, e, B, C, z, rfl, un, r, r', hf, q⟩ := rC2 h
  cases r <;> cases r' <;> simp only [fMax2, fMin2, Option.some.injEq, reduceCtorEq] at hf
  subst hf
  exact ⟨_, _, rfl, post_val un q (.int _)⟩
theorem c_min2 (hc : X.calm = true) : CallR X (.builtin "min") (rC (gd X) (on2 fMin2)) := CallR.imp (call_min2 hc) fun xs H Q h => by
  obtain ⟨v, w, P, d, e, B, C, z, rfl, un, r, r', hf, q⟩ := rC2 h
  cases r <;> cases r' <;> simp only [fMax2, fMin2, Option.some.injEq, reduceCtorEq] at hf
  subst hf
  exact ⟨_, _, rfl, post_val un q (.int _)⟩
/-- list(x) -/
def fList : D → Option D
  | .lst _ ds => if cleanL ds = true then some (.lst true ds) else none
  | .tup ds => if cleanL ds = true then some (.lst true ds) else none
  | .scr ns => some (.lst true (ns.map .int))
  | _ => none
theorem c_list : CallR X (.type "list") (rC (gd X) (on1 fList)) := CallR.imp call_list_of fun xs H Q h => by
  obtain ⟨v, P, d, B, z, rfl, un, r, o, hf, q⟩ := rC1 h
  cases r with
  | tup q1 r =>
    simp only [fList] at hf
    split at hf
    · rename_i c; cases hf; exact ⟨_, _, rfl, .inr (un.seqT q1), fun p hp => post_lst un q (r.nil_of c) hp⟩
    · cases hf
  | lstF q1 r =>
    simp only [fList] at hf
    split at hf
    · rename_i c; cases hf; exact ⟨_, _, rfl, .inl (un.seqL (SqL.of q1)), fun p hp => post_lst un q (r.nil_of c) hp⟩
    · cases hf
  | lstO q1 r =>
    simp only [fList] at hf
    split at hf
    · rename_i c; cases hf; exact ⟨_, _, rfl, .inl (SqL.of q1), fun p hp => post_lst un q (r.nil_of c) hp⟩
    · cases hf
  | scr q1 => simp only [fList, Option.some.injEq] at hf; subst hf; exact ⟨_, _, rfl, .inl (un.seqL q1), fun p hp => post_lst un q (ints_rel _) hp⟩
  | _ => simp [fList] at hf
/-- tuple(x) -/
def fTuple : D → Option D
  | .lst _ ds => if cleanL ds = true then some (.tup ds) else none
  | .tup ds => if cleanL ds = true then some (.tup ds) else none
  | _ => none
theorem c_tuple : CallR X (.type "tuple") (rC (gd X) (on1 fTuple)) := CallR.imp call_tuple_of fun xs H Q h => by
  obtain ⟨v, P, d, B, z, rfl, un, r, o, hf, q⟩ := rC1 h
  cases r with
  | tup q1 r =>
    simp only [fTuple] at hf
    split at hf
    · rename_i c; cases hf; exact ⟨_, _, rfl, .inr ⟨un.seqT q1, post_val un q (.tup q1 (r.nil_of c))⟩⟩
    · cases hf
  | lstF q1 r =>
    simp only [fTuple] at hf
    split at hf
    · rename_i c; cases hf; exact ⟨_, _, rfl, .inl ⟨un.seqL (SqL.of q1), fun p hp => post_tup un q (r.nil_of c) hp⟩⟩
    · cases hf
  | lstO q1 r =>
    simp only [fTuple] at hf
    split at hf
    · rename_i c; cases hf; exact ⟨_, _, rfl, .inl ⟨SqL.of q1, fun p hp => post_tup un q (r.nil_of c) hp⟩⟩
    · cases hf
  | _ => simp [fTuple] at hf
/-- str(x) -/
def fStr : D → Option D
  | .int i => if sml i = true then some (.str (toString i)) else none
  | .str x => some (.str x)
  | _ => none
theorem c_str : CallR X (.type "str") (rC (gd X) (on1 fStr)) := CallR.imp (CallR.or call_str_int SkE.call_str_str) fun xs H Q h => by
  obtain ⟨v, P, d, B, z, rfl, un, r, o, hf, q⟩ := rC1 h
  cases r with
  | int i =>
    simp only [fStr] at hf
    split at hf
    · rename_i c
      cases hf
      simp only [sml, decide_eq_true_eq] at c
      exact .inl ⟨_, rfl, by omega, post_val un q (.str _)⟩
    · cases hf
  | str x => simp only [fStr, Option.some.injEq] at hf; subst hf; exact .inr ⟨_, rfl, post_val un q (.str _)⟩
  | _ => simp [fStr] at hf
/-- int(x) -/
def fInt : D → Option D
  | .int i => some (.int i)
  | .bl b => some (.int (if b then 1 else 0))
  | .str x => if x.length ≤ 640 then (PySem.intText? x).map .int else none
  | _ => none
theorem c_int : CallR X (.type "int") (rC (gd X) (on1 fInt)) := CallR.imp (CallR.or call_int1 call_int_str) fun xs H Q h => by
  obtain ⟨v, P, d, B, z, rfl, un, r, o, hf, q⟩ := rC1 h
  cases r with
  | int i => simp only [fInt, Option.some.injEq] at hf; subst hf; exact .inl (.inl ⟨_, rfl, post_val un q (.int _)⟩)
  | bl b => simp only [fInt, Option.some.injEq] at hf; subst hf; exact .inl (.inr ⟨_, rfl, post_val un q (.int _)⟩)
  | str x =>
    simp only [fInt] at hf
    split at hf
    · rename_i c
      cases hi : PySem.intText? x with
      | none => rw [hi] at hf; cases hf
      | some n =>
        rw [hi] at hf
        cases hf
        exact .inr ⟨_, n, rfl, hi, c, post_val un q (.int _)⟩
    · cases hf
  | _ => simp [fInt] at hf
/-- all, any of a list of bools -/
def blsOf : List D → Option (List Bool)
  | [] => some []
  | .bl b :: ds => (blsOf ds).map (b :: ·)
  | _ => none
theorem bls_rel {G : Gd} {P H : Hp} : ∀ {xs : List V} {ds : List D} {A : List Addr} {bs : List Bool}, RelL G P H xs ds A → blsOf ds = some bs → xs = bs.map V.bl
  | _, _, _, bs, .nil, h => by simp only [blsOf, Option.some.injEq] at h; subst h; rfl
  | _, _, _, bs, .cons (d := d) (ds := ds) r t, h => by
    cases r with
    | bl b =>
      simp only [blsOf] at h
      cases hb : blsOf ds with
      | none => rw [hb] at h; cases h
      | some cs => rw [hb] at h; cases h; rw [List.map_cons, bls_rel t hb]
    | _ => simp [blsOf] at h
def fAll : D → Option D
  | .lst _ ds => (blsOf ds).map fun bs => .bl (bs.all id)
  | _ => none
def fAny : D → Option D
  | .lst _ ds => (blsOf ds).map fun bs => .bl (bs.any id)
  | _ => none
theorem c_all (hc : X.calm = true) : CallR X (.builtin "all") (rC (gd X) (on1 fAll)) := CallR.imp (cr_all hc) fun xs H Q h => by
  obtain ⟨v, P, d, B, z, rfl, un, r, o, hf, q⟩ := rC1 h
  have go : ∀ {a : Addr} {xs : List V} {ds : List D} {A : List Addr}, SqL X.K H a xs → RelL (gd X) P H xs ds A → (blsOf ds).map (fun bs => D.bl (bs.all id)) = some z → rAll X.K [.ref a] H Q := fun {a xs ds A} q1 r hf => by
    cases hb : blsOf ds with
    | none => rw [hb] at hf; cases hf
    | some bs =>
      rw [hb] at hf
      cases hf
      exact ⟨a, bs, rfl, by rw [← bls_rel r hb]; exact q1, post_val un q (.bl _)⟩
  cases r with
  | lstF q1 r => exact go (un.seqL (SqL.of q1)) r hf
  | lstO q1 r => exact go (SqL.of q1) r hf
  | _ => simp [fAll] at hf
theorem c_any (hc : X.calm = true) : CallR X (.builtin "any") (rC (gd X) (on1 fAny)) := CallR.imp (cr_any hc) fun xs H Q h => by
  obtain ⟨v, P, d, B, z, rfl, un, r, o, hf, q⟩ := rC1 h
  have go : ∀ {a : Addr} {xs : List V} {ds : List D} {A : List Addr}, SqL X.K H a xs → RelL (gd X) P H xs ds A → (blsOf ds).map (fun bs => D.bl (bs.any id)) = some z → rAny X.K [.ref a] H Q := fun {a xs ds A} q1 r hf => by
    cases hb : blsOf ds with
    | none => rw [hb] at hf; cases hf
    | some bs =>
      rw [hb] at hf
      cases hf
      exact ⟨a, bs, rfl, by rw [← bls_rel r hb]; exact q1, post_val un q (.bl _)⟩
  cases r with
  | lstF q1 r => exact go (un.seqL (SqL.of q1)) r hf
  | lstO q1 r => exact go (SqL.of q1) r hf
  | _ => simp [fAny] at hf
/-- divmod(n, k), k written -/
def fDivmod : D → D → Option D
  | .int i, .int j => if 0 < j ∧ j < 1073741824 then some (.tup [.int (i / j), .int (i % j)]) else none
  | _, _ => none
theorem c_divmod : CallR X (.builtin "divmod") (rC (gd X) (on2 fDivmod)) := CallR.imp call_divmod fun xs H Q h => by
  obtain ⟨v, w, P, d, e, B, C, z, rfl, un, r, r', hf, q⟩ := rC2 h
  cases r <;> cases r' <;> simp only [fDivmod, reduceCtorEq] at hf
  split at hf
  · rename_i c
    cases hf
    exact ⟨_, _, rfl, c, fun p hp => post_tup un q (.cons (A := []) (B := []) (.int _) (.cons (A := []) (B := []) (.int _) .nil)) hp⟩
  · cases hf
/-! ### isinstance with a built-in class -/
def tyName : D → Option String
  | .non => some "NoneType"
  | .bl _ => some "bool"
  | .int _ => some "int"
  | .str _ => some "str"
  | .tup _ => some "tuple"
  | .lst _ _ => some "list"
  | .dct _ _ _ => some "dict"
  | _ => none
def fIsTy (T : String) : D → Option D := fun d => (tyName d).bind fun t => (kitB t T).map .bl
theorem ty_of {P H : Hp} {v : V} {d : D} {A : List Addr} {t : String} (un : Under P H) (r : Rel (gd X) P H v d A) (h : tyName d = some t) : TyX X.K H v (.type t) := by
  cases r with
  | non => cases h; exact .base .non
  | bl b => cases h; exact .base (.bl b)
  | int b => cases h; exact .base (.int b)
  | str b => cases h; exact .base (.str b)
  | tup q r =>
    cases h
    rcases un.seqT q with (z | ⟨o, z⟩) | ⟨o, its, n, z, c, _⟩
    · exact .base (.tup z)
    · exact .fTuple z
    · exact .kTuple z c
  | lstF q r =>
    cases h
    rcases un _ _ q with z | ⟨_, _, z, _⟩ | ⟨_, _, z, _⟩
    · exact .base (.lst z)
    · cases z
    · cases z
  | lstO q r => cases h; exact .base (.lst q)
  | dctF q l r =>
    cases h
    rcases un _ _ q with z | ⟨ob, kvs, e, z⟩ | ⟨_, _, z, _⟩
    · exact .base (.dK z)
    · exact .fDict z
    · cases z
  | dctO q l r => cases h; exact .base (.dK q)
  | _ => simp [tyName] at h
/-- isinstance(e, T), T a built-in class by its name -/
theorem e_isTy (T : String) {x : Str} {p p2 pos : Pos} {e : Expr} {S : Env → Res D} (hm : X.mg "isinstance" = none) (hm2 : X.mg x = none) (hv : bootBuiltins x = some (.type T)) (he : BOk X W e S) (hg : Gl X "isinstance" := by rfl) (hg2 : Gl X x := by rfl)
    (hn : x ≠ "__name__" := by decide) (hdb : (x == ("__debug__" : Str)) = false := by decide)
    (hs : starEach [e, .Name x p2] X.env = (false, eval e X.env) :: starEach [.Name x p2] X.env := by rfl) (hpl : (backTo pos (starEach [.Name x p2] X.env)).any (·.1) = false := by rfl) :
    EOk X W (.Call (.Name "isinstance" p) [e, .Name x p2] [] pos) (s1 (fIsTy T) S) :=
  ⟨PE.imp (pe_callB call_isi hg hm (by decide +kernel) (pa_cons he.pe (pa_cons (pe_bltn (v := .ty T) hg2 hm2 hv rfl hn hdb) pa_nil) hs) (by decide) (by decide) hs hpl) fun σ H Q ⟨P, ρ, A, st, h⟩ => ⟨P, ρ, A, st, by
    unfold s1 at h
    cases hsS : S ρ with
    | bad => simp only [hsS, Res.bind] at h
    | exc x => simp only [hsS, Res.bind] at h; exact h
    | ok d =>
      simp only [hsS, Res.bind] at h
      intro v P1 H1 B e1 r o
      cases ht : tyName d with
      | none => simp only [fIsTy, ht, Option.bind, opt] at h
      | some t =>
        cases hk : kitB t T with
        | none => simp only [fIsTy, ht, hk, Option.bind, Option.map, opt] at h
        | some b =>
          simp only [fIsTy, ht, hk, Option.bind, Option.map, opt] at h
          exact ⟨v, .ty T, .type t, .type T, b, rfl, .ty T, ty_of e1.und r ht, kit_ty hk, h _ P1 H1 [] e1 (.bl b) Fresh.nil⟩⟩⟩
/-! ### texts put together -/
def fFmt : D → Option D
  | .int i => if sml i = true then some (.str (toString i)) else none
  | .str x => if x.length ≤ sizeLine then some (.str x) else none
  | _ => none
theorem e_fmt {e : Expr} {pos : Pos} {S : Env → Res D} (he : BOk X W e S) : EOk X W (.FormattedValue e (-1) none pos) (s1 fFmt S) := ⟨PE.imp (pe_fmt he.pe) fun σ H Q ⟨P, ρ, A, st, h⟩ => ⟨P, ρ, A, st, by
  unfold s1 at h
  cases hs : S ρ with
  | bad => simp only [hs, Res.bind] at h
  | exc x => simp only [hs, Res.bind] at h; exact h
  | ok d =>
    simp only [hs, Res.bind] at h
    intro v P1 H1 B e1 r o
    cases r with
    | int i =>
      simp only [fFmt] at h
      by_cases c : sml i = true
      · rw [if_pos c] at h
        have c' := c
        simp only [sml, decide_eq_true_eq] at c'
        exact .inr ⟨i, rfl, by omega, h _ P1 H1 [] e1 (.str _) Fresh.nil⟩
      · rw [if_neg c] at h; exact h.elim
    | str x =>
      simp only [fFmt] at h
      by_cases c : x.length ≤ sizeLine
      · rw [if_pos c] at h
        exact .inl ⟨x, rfl, c, h _ P1 H1 [] e1 (.str _) Fresh.nil⟩
      · rw [if_neg c] at h; exact h.elim
    | _ => simp [fFmt, opt] at h⟩⟩
/-- the parts of an f-text -/
inductive JOk (X : Cx) (W : WX) : List Expr → List (Env → Res D) → Prop
  | nil : JOk X W [] []
  | cons {e : Expr} {S : Env → Res D} {es : List Expr} {Ss : List (Env → Res D)} : EOk X W e S → JOk X W es Ss → JOk X W (e :: es) (S :: Ss)
theorem JOk.pj : ∀ {es : List Expr} {Ss : List (Env → Res D)}, JOk X W es Ss → PJ X es (Ss.map (tE (gd X) W))
  | _, _, .nil => .nil
  | _, _, .cons h t => .cons h.pe t.pj
def jRun : List (Env → Res D) → Str → Env → Res D
  | [], acc, _ => .ok (.str acc)
  | S :: Ss, acc, ρ => (S ρ).bind fun d => match d with
    | .str y => if (acc ++ y).length ≤ sizeLine then jRun Ss (acc ++ y) ρ else .bad
    | _ => .bad
theorem j_imp : ∀ {Ss : List (Env → Res D)} {acc : Str} {σ : Sl} {H : Hp} {Q : VK}, tE (gd X) W (jRun Ss acc) σ H Q → tJs (Ss.map (tE (gd X) W)) acc σ H fun out H1 => Q (.str out) H1
  | [], acc, σ, H, Q, ⟨P, ρ, A, st, h⟩ => post_val st.und h (.str acc)
  | S :: Ss, acc, σ, H, Q, ⟨P, ρ, A, st, h⟩ => by
    refine ⟨P, ρ, A, st, ?_⟩
    simp only [jRun] at h
    cases hs : S ρ with
    | bad => simp only [hs, Res.bind] at h
    | exc x => simp only [hs, Res.bind] at h; exact h
    | ok d =>
      simp only [hs, Res.bind] at h
      intro v P1 H1 B e1 r f
      cases r with
      | str y =>
        simp only at h
        by_cases c : (acc ++ y).length ≤ sizeLine
        · rw [if_pos c] at h
          refine ⟨y, rfl, c, j_imp ⟨P1, ρ, A, st.ext e1, ?_⟩⟩
          cases hj : jRun Ss (acc ++ y) ρ with
          | bad => rw [hj] at h; exact h
          | exc x => rw [hj] at h; exact PostX.ext h st.und e1
          | ok d' => rw [hj] at h; exact Post.ext h st.und e1
        · rw [if_neg c] at h; exact h.elim
      | _ => exact (show False from h).elim
theorem e_join2 {v1 v2 : Expr} {rest : List Expr} {Ss : List (Env → Res D)} {pos : Pos} (h : JOk X W (v1 :: v2 :: rest) Ss) : EOk X W (.JoinedStr (v1 :: v2 :: rest) pos) (jRun Ss Str.empty) := ⟨PE.imp (pe_joined h.pj) fun σ H Q q => j_imp q⟩
end
end RL

/-! RL: defs by their names, constants of the module. -/
namespace RL
open PySem PySem.Spec PyProof.Rows L2
/-- the module's name x is a def that does what φ says -/
structure DefOk (P : Program) (w : World) (K : PySem.W.Frag) (mg : Str → Option Value) (base : Heap) (x : Str) (k : Nat) (ps : List Str) (φ : List D → FR) : Prop where
  ex : ∃ f fd, FnG P w K mg base k f fd ps (spF ⟨K, mg⟩ ps.length [] φ) ∧ mg x = some (.ref f) ∧ PySem.W.keepIn K (.ref f) = true ∧ Binds K fd ps []
section
variable {P : Program} {w : World} {K : PySem.W.Frag} {mg : Str → Option Value} {base : Heap}
theorem fun_of {x qual : Str} {st : Stmt} {f : Addr} {fd : FuncData} (h : FunD K x qual (defArgs st) (defBody st) (defScope st) [] [] f fd) : Fun K x qual st f fd := by
  obtain ⟨oc, od, dV, kV, doc, pm, an, cdv, ct, osl, e, l, c, dv, _⟩ := h.ex
  have e0 : dV = .none := by
    rcases dv with ⟨_, q⟩ | ⟨q, _⟩
    · exact q
    · exact absurd rfl q
  subst e0
  exact ⟨⟨oc, od, kV, doc, pm, an, cdv, ct, osl, e, l, c⟩, h.kp⟩
theorem DefOk.mk' {x qual : Str} {st : Stmt} {f : Addr} {fd : FuncData} {k : Nat} {ps : List Str} {φ : List D → FR} (F : Fun K x qual st f fd) (g : mg x = some (.ref f)) (h : FnG P w K mg base k f fd ps (spF ⟨K, mg⟩ ps.length [] φ))
    (b : ∀ (kV doc pm : Value) (an : Option Addr) (cdv ct : Value) (us : List Value), us.length = ps.length → bindArgs (PySem.W.fnOf x qual (defArgs st) (defBody st) (defScope st) .none kV doc pm an cdv ct) ⟨us, []⟩ = pure (ps.zip us)) : DefOk P w K mg base x k ps φ :=
  ⟨f, fd, h, g, F.kp, F.binds b⟩
end
section
variable {X : Cx} {W : WX} {j k : Nat} {ps : List Str} {x : Str} {φ : List D → FR} {p pos : Pos} {e : Expr} {es : List Expr}
theorem e_fn {S : Env → Res (List D)} (F : DefOk X.prog X.w X.K X.mg X.base x j ps φ) (hr : GRoom k X.A) (tk : Takes X W) (ha : AOk X W (e :: es) S) (hj : j ≤ k := by decide) (hg : Gl X x := by rfl) (hdb : (x == ("__debug__" : Str)) = false := by decide)
    (he : starEach (e :: es) X.env = (false, eval e X.env) :: starEach es X.env := by rfl) (hpl : (backTo pos (starEach es X.env)).any (·.1) = false := by rfl) : EOk X W (.Call (.Name x p) (e :: es) [] pos) (sCallF ps.length φ S) := by
  obtain ⟨f, fd, h, g, kp, b⟩ := F.ex
  exact e_call h (hr.mono hj) g kp b tk ha hg hdb he hpl
/-- -n of a written n -/
def fNeg : D → Option D
  | .int i => some (.int (-i))
  | _ => none
theorem e_neg {a : Expr} {S : Env → Res D} (ha : BOk X W a S) : EOk X W (.UnaryOp .USub a pos) (s1 fNeg S) := ⟨PE.imp (pe_un un_neg ha.pe) fun σ H Q ⟨P, ρ, A, st, h⟩ => ⟨P, ρ, A, st, by
  unfold s1 at h
  cases hs : S ρ with
  | bad => simp only [hs, Res.bind] at h
  | exc x => simp only [hs, Res.bind] at h; exact h
  | ok d =>
    simp only [hs, Res.bind] at h
    intro v P1 H1 B e1 r o
    cases r with
    | int i => simp only [fNeg, opt] at h; exact ⟨i, rfl, h _ P1 H1 [] e1 (.int _) Fresh.nil⟩
    | _ => simp [fNeg, opt] at h⟩⟩
theorem e_globI {i : Int} (hm : ∃ t, X.mg x = some (.int i t)) (hg : Gl X x := by rfl) (hd : (x == ("__debug__" : Str)) = false := by decide) : EOk X W (.Name x p) (sC (.int i)) := by
  obtain ⟨t, h⟩ := hm
  exact e_val (pe_glob (v := .int i) hg h ⟨t, rfl⟩ hd) fun _ _ => .int i
theorem e_globS {i : Str} (hm : ∃ t, X.mg x = some (.str i t)) (hg : Gl X x := by rfl) (hd : (x == ("__debug__" : Str)) = false := by decide) : EOk X W (.Name x p) (sC (.str i)) := by
  obtain ⟨t, h⟩ := hm
  exact e_val (pe_glob (v := .str i) hg h ⟨t, rfl⟩ hd) fun _ _ => .str i
/-- a < b < c, b reckoned once -/
def sChain (f g : D → D → Option D) (Sa Sb Sc : Env → Res D) : Env → Res D := fun ρ => (Sa ρ).bind fun x => (Sb ρ).bind fun y => (opt (f x y)).bind fun z => (asB z).bind fun k => if k = true then (Sc ρ).bind fun u => opt (g y u) else .ok (.bl false)
theorem chain_imp {f g : D → D → Option D} {Sa Sb Sc : Env → Res D} {r r' : R2} (hf : ∀ x y H Q, rD (gd X) f x y H Q → r x y H Q) (hg : ∀ x y H Q, rD (gd X) g x y H Q → r' x y H Q) {σ : Sl} {H : Hp} {Q : VK} (h : tE (gd X) W (sChain f g Sa Sb Sc) σ H Q) :
    tChain r r' (tBo (gd X) W Sa) (tBo (gd X) W Sb) (tBo (gd X) W Sc) σ H Q := by
  obtain ⟨P, ρ, A, st, h⟩ := h
  refine ⟨P, ρ, A, st, ?_⟩
  unfold sChain at h
  cases ha : Sa ρ with
  | bad => simp only [ha, Res.bind] at h
  | exc x => simp only [ha, Res.bind] at h; exact h
  | ok dx =>
    simp only [ha, Res.bind] at h
    intro v P1 H1 B1 e1 r1 o1
    refine ⟨P1, ρ, A, st.ext e1, ?_⟩
    cases hb : Sb ρ with
    | bad => simp only [hb] at h
    | exc x => simp only [hb] at h; exact PostX.ext h st.und e1
    | ok dy =>
      simp only [hb] at h
      intro v2 P2 H2 B2 e2 r2 o2
      cases hz : f dx dy with
      | none => simp only [hz, opt] at h
      | some dz =>
        simp only [hz, opt] at h
        refine hf _ _ _ _ ⟨P2, dx, dy, B1, B2, e2.und, r1.ext e2 o1, r2, (e2.own r1.at o1).2, o2, ?_⟩
        rw [hz]
        intro v3 P3 H3 B3 e3 r3 f3
        have e13 := (e1.trans st.und e2).trans st.und e3
        cases dz with
        | bl k =>
          cases r3
          refine ⟨k, rfl, ?_⟩
          cases k with
          | false =>
            simp only [asB, Bool.false_eq_true, if_false] at h ⊢
            exact h _ P3 H3 [] e13 (.bl false) Fresh.nil
          | true =>
            simp only [asB, if_true] at h ⊢
            refine ⟨P3, ρ, A, st.ext e13, ?_⟩
            cases hc : Sc ρ with
            | bad => simp only [hc] at h
            | exc x => simp only [hc] at h; exact PostX.ext h st.und e13
            | ok du =>
              simp only [hc] at h
              intro v4 P4 H4 B4 e4 r4 o4
              have r2' := (r2.ext e3 o2).ext e4 (e3.own r2.at o2).2
              refine hg _ _ _ _ ⟨P4, dy, du, B2, B4, e4.und, r2', r4, (e4.own (r2.ext e3 o2).at (e3.own r2.at o2).2).2, o4, ?_⟩
              cases hw : g dy du with
              | none => simp only [hw, opt] at h
              | some d => simp only [hw, opt] at h; exact Post.ext h st.und (e13.trans st.und e4)
        | _ => simp [asB] at h
theorem e_chain {a b c : Expr} {op op' : CmpOp} {f g : D → D → Option D} {Sa Sb Sc : Env → Res D} (ho : OpR X (compareOp op) (rD (gd X) f)) (ho' : OpR X (compareOp op') (rD (gd X) g)) (ha : BOk X W a Sa) (hb : BOk X W b Sb) (hc : BOk X W c Sc)
    (hm : lastMarks [op, op'] [b, c] = false := by with_unfolding_all rfl) : EOk X W (.Compare a [op, op'] [b, c] pos) (sChain f g Sa Sb Sc) :=
  ⟨PE.imp (pe_chain ho ho' ha.pe hb.pe hc.pe hm) fun _ _ _ => chain_imp (fun _ _ _ _ h => h) fun _ _ _ _ h => h⟩
theorem t_chain {a b c : Expr} {op op' : CmpOp} {f g : D → D → Option D} {Sa Sb Sc : Env → Res D} (ho : OpR X (compareOp op) (rD (gd X) f)) (ho' : OpR X (compareOp op') (rD (gd X) g)) (ha : BOk X W a Sa) (hb : BOk X W b Sb) (hc : BOk X W c Sc)
    (hm : lastMarks [op, op'] [b, c] = false := by with_unfolding_all rfl) : TOk X W (.Compare a [op, op'] [b, c] pos) (sTest (sChain f g Sa Sb Sc)) :=
  ⟨PT.imp (pt_chain ho ho' ha.pe hb.pe hc.pe hm) fun _ _ _ h => chain_imp (fun _ _ _ _ h => h) (fun _ _ _ _ h => h) (test_of h)⟩
end
end RL

/-! RL, rules to compute meanings with. -/
namespace RL
open PySem PySem.Spec PyProof.Rows L2
section
variable {α β : Type}
@[simp] theorem bind_ok {a : α} {f : α → Res β} : (Res.ok a).bind f = f a := rfl
@[simp] theorem bind_exc {x : D} {f : α → Res β} : (Res.exc x : Res α).bind f = .exc x := rfl
@[simp] theorem bind_bad {f : α → Res β} : (Res.bad : Res α).bind f = .bad := rfl
@[simp] theorem opt_some {a : α} : opt (some a) = .ok a := rfl
@[simp] theorem asB_bl {b : Bool} : asB (.bl b) = .ok b := rfl
@[simp] theorem asI_int {i : Int} : asI (.int i) = .ok i := rfl
@[simp] theorem on1_ap {f : D → Option D} {d : D} : on1 f [d] = f d := rfl
@[simp] theorem on2_ap {f : D → D → Option D} {d e : D} : on2 f [d, e] = f d e := rfl
end
section
variable {ρ : Env}
@[simp] theorem sVarB_ap {i : Nat} {d : D} (h : ρ[i]? = some (some d)) : sVarB i ρ = .ok d := by simp [sVarB, h]
@[simp] theorem sCl_ap {S : Env → Res D} : sCl S ρ = (S ρ).bind fun d => if d.clean = true then .ok d else .bad := rfl
@[simp] theorem sVar_ap {i : Nat} {d : D} (h : ρ[i]? = some (some d)) : sVar i ρ = if d.clean = true then .ok d else .bad := by simp [sVar, h]
@[simp] theorem sC_ap {d : D} : sC d ρ = .ok d := rfl
@[simp] theorem s2_ap {f : D → D → Option D} {Sa Sb : Env → Res D} : s2 f Sa Sb ρ = (Sa ρ).bind fun x => (Sb ρ).bind fun y => opt (f x y) := rfl
@[simp] theorem s1_ap {f : D → Option D} {S : Env → Res D} : s1 f S ρ = (S ρ).bind fun d => opt (f d) := rfl
@[simp] theorem sTest_ap {S : Env → Res D} : sTest S ρ = (S ρ).bind asB := rfl
@[simp] theorem sNot_ap {S : Env → Res Bool} : sNot S ρ = (S ρ).bind fun b => .ok (!b) := rfl
@[simp] theorem sAndT_ap {S T : Env → Res Bool} : sAndT S T ρ = (S ρ).bind fun b => if b = true then T ρ else .ok false := rfl
@[simp] theorem sOrT_ap {S T : Env → Res Bool} : sOrT S T ρ = (S ρ).bind fun b => if b = true then .ok true else T ρ := rfl
@[simp] theorem sIf_ap {C : Env → Res Bool} {Sa Sb : Env → Res D} : sIf C Sa Sb ρ = (C ρ).bind fun k => if k = true then Sa ρ else Sb ρ := rfl
@[simp] theorem sB_ap {S : Env → Res Bool} : sB S ρ = (S ρ).bind fun b => .ok (.bl b) := rfl
@[simp] theorem sNotV_ap {S : Env → Res D} : sNotV S ρ = sB (sNot (sTest S)) ρ := rfl
@[simp] theorem sAnd_ap {Sa Sb : Env → Res D} : sAnd Sa Sb ρ = (Sa ρ).bind fun x => (asB x).bind fun k => if k = true then Sb ρ else .ok (.bl false) := rfl
@[simp] theorem sOr_ap {Sa Sb : Env → Res D} : sOr Sa Sb ρ = (Sa ρ).bind fun x => (asB x).bind fun k => if k = true then .ok (.bl true) else Sb ρ := rfl
@[simp] theorem sNil_ap : sNil ρ = .ok [] := rfl
@[simp] theorem sCons_ap {S : Env → Res D} {T : Env → Res (List D)} : sCons S T ρ = (S ρ).bind fun d => (T ρ).bind fun ds => .ok (d :: ds) := rfl
@[simp] theorem sIx_ap {Sa Sb : Env → Res D} : sIx Sa Sb ρ = (Sa ρ).bind fun x => (Sb ρ).bind fun y => opt (opIx x y) := rfl
@[simp] theorem sPn_ap : sPn ρ = .ok none := rfl
@[simp] theorem sPs_ap {S : Env → Res D} : sPs S ρ = (S ρ).bind fun d => (asI d).bind fun i => .ok (some i) := rfl
@[simp] theorem sSl_ap {S : Env → Res D} {L U : Env → Res (Option Int)} : sSl S L U ρ = (S ρ).bind fun d => (L ρ).bind fun lo => (U ρ).bind fun hi => opt (opSl d lo hi) := rfl
@[simp] theorem sTup_ap {S : Env → Res (List D)} : sTup S ρ = (S ρ).bind fun ds => if ds.length ≤ sizeLine then .ok (.tup ds) else .bad := rfl
@[simp] theorem sLst_ap {S : Env → Res (List D)} : sLst S ρ = (S ρ).bind fun ds => if ds.length ≤ sizeLine then .ok (.lst true ds) else .bad := rfl
@[simp] theorem sCall_ap {f : List D → Option D} {S : Env → Res (List D)} : sCall f S ρ = (S ρ).bind fun ds => opt (f ds) := rfl
@[simp] theorem sSeq_ap {S : Env → Res D} : sSeq S ρ = (S ρ).bind fun d => opt (seqD d) := rfl
@[simp] theorem sI_ap {f : List D → Option (List D)} {S : Env → Res (List D)} : sI f S ρ = (S ρ).bind fun ds => opt (f ds) := rfl
@[simp] theorem sYes_ap : sYes ρ = .ok true := rfl
@[simp] theorem jRun_nil {acc : Str} : jRun [] acc ρ = .ok (.str acc) := rfl
@[simp] theorem jRun_cons {S : Env → Res D} {Ss : List (Env → Res D)} {acc : Str} : jRun (S :: Ss) acc ρ = (S ρ).bind fun d => match d with
    | .str y => if (acc ++ y).length ≤ sizeLine then jRun Ss (acc ++ y) ρ else .bad
    | _ => .bad := rfl
@[simp] theorem sChain_ap {f g : D → D → Option D} {Sa Sb Sc : Env → Res D} : sChain f g Sa Sb Sc ρ = (Sa ρ).bind fun x => (Sb ρ).bind fun y => (opt (f x y)).bind fun z => (asB z).bind fun k => if k = true then (Sc ρ).bind fun u => opt (g y u) else .ok (.bl false) := rfl
/-- what a call answers -/
def FR.res : FR → Res D
  | .ok d _ => .ok d
  | .exc x _ => .exc x
  | .bad => .bad
@[simp] theorem res_ok {d : D} {os : List D} : (FR.ok d os).res = .ok d := rfl
@[simp] theorem res_exc {d : D} {os : List D} : (FR.exc d os).res = .exc d := rfl
@[simp] theorem sCallF_ap {n : Nat} {φ : List D → FR} {S : Env → Res (List D)} : sCallF n φ S ρ = (S ρ).bind fun ds => if ds.length = n then (φ (frzL ds)).res else .bad := by
  unfold sCallF
  cases S ρ with
  | ok ds => simp only [bind_ok]; split <;> first | rfl | (cases φ (frzL ds) <;> rfl)
  | _ => rfl
/-! statements -/
@[simp] theorem sNext_ap : sNext ρ = .nx ρ := rfl
@[simp] theorem sBreak_ap : sBreak ρ = .bk ρ := rfl
@[simp] theorem sRetN_ap : sRetN ρ = .rt .non ρ := rfl
/-- what comes after -/
def SRes.andThen (r : SRes) (T : Env → SRes) : SRes := match r with
  | .nx ρ' => T ρ'
  | .rt d ρ' => .rt d ρ'
  | .bk ρ' => .bk ρ'
  | .exc x ρ' => .exc x ρ'
  | .bad => .bad
@[simp] theorem andThen_nx {T : Env → SRes} : (SRes.nx ρ).andThen T = T ρ := rfl
@[simp] theorem andThen_rt {T : Env → SRes} {d : D} : (SRes.rt d ρ).andThen T = .rt d ρ := rfl
@[simp] theorem andThen_bk {T : Env → SRes} : (SRes.bk ρ).andThen T = .bk ρ := rfl
@[simp] theorem andThen_exc {T : Env → SRes} {d : D} : (SRes.exc d ρ).andThen T = .exc d ρ := rfl
@[simp] theorem sThen_ap {S T : Env → SRes} : sThen S T ρ = (S ρ).andThen T := by
  unfold sThen SRes.andThen
  cases S ρ <;> rfl
def Res.stm {α : Type} (r : Res α) (ρ : Env) (k : α → SRes) : SRes := match r with
  | .ok a => k a
  | .exc x => .exc x ρ
  | .bad => .bad
@[simp] theorem stm_ok {α : Type} {a : α} {k : α → SRes} : (Res.ok a).stm ρ k = k a := rfl
@[simp] theorem stm_exc {α : Type} {x : D} {k : α → SRes} : (Res.exc x : Res α).stm ρ k = .exc x ρ := rfl
def put (o : Option Env) : SRes := match o with
  | some ρ' => .nx ρ'
  | none => .bad
@[simp] theorem put_some {ρ : Env} : put (some ρ) = .nx ρ := rfl
@[simp] theorem sAsg_ap {t : Tg} {f : Bool} {S : Env → Res D} : sAsg t f S ρ = (S ρ).stm ρ fun d => put (t.set (if f then d.frz else d) ρ) := by
  unfold sAsg Res.stm put
  cases S ρ <;> rfl
@[simp] theorem sPar_ap {i j : Nat} {S : Env → Res (List D)} {d e : D} (h : S ρ = .ok [d, e]) : sPar i j S ρ = put ((Tg.tp [.nm i, .nm j]).set (.tup [d, e]) ρ) := by
  unfold sPar put
  simp only [h]
  all_goals (split <;> rename_i e <;> rw [e])
@[simp] theorem sRet_ap {S : Env → Res D} : sRet S ρ = (S ρ).stm ρ fun d => .rt d ρ := by
  unfold sRet Res.stm
  cases S ρ <;> rfl
@[simp] theorem sExpr_ap {S : Env → Res D} : sExpr S ρ = (S ρ).stm ρ fun _ => .nx ρ := by
  unfold sExpr Res.stm
  cases S ρ <;> rfl
@[simp] theorem sRetV_ap {i : Nat} {d : D} (h : ρ[i]? = some (some d)) : sRetV i ρ = .rt d (ρ.set i none) := by simp [sRetV, h]
@[simp] theorem sFrz_ap {i : Nat} {S : Env → SRes} {d : D} (h : ρ[i]? = some (some d)) : sFrz i S ρ = S (ρ.set i (some d.frz)) := by simp [sFrz, h]
@[simp] theorem sIfS_ap {C : Env → Res Bool} {S T : Env → SRes} : sIfS C S T ρ = (C ρ).stm ρ fun b => if b = true then S ρ else T ρ := by
  unfold sIfS Res.stm
  cases C ρ with
  | ok b => cases b <;> rfl
  | _ => rfl
@[simp] theorem sFor_ap {Si : Env → Res (List D)} {t : Tg} {S : Env → SRes} : sFor Si t S ρ = (Si ρ).stm ρ fun ds => forRun t S ds ρ := by
  unfold sFor Res.stm
  cases Si ρ <;> rfl
/-- the end of a run -/
def endF (L : List Nat) : SRes → FR
  | .nx ρ => (match outsOf L ρ with | some os => .ok .non os | none => .bad)
  | .rt d ρ => (match outsOf L ρ with | some os => .ok d os | none => .bad)
  | .exc x ρ => (match outsOf L ρ with | some os => .exc x os | none => .bad)
  | _ => .bad
theorem runDef_ap {n : Nat} {L : List Nat} {S : Env → SRes} {ds : List D} : runDef n L S ds = endF L (S (entry n ds)) := by
  unfold runDef endF
  cases S (entry n ds) <;> rfl
@[simp] theorem endF_rt0 {d : D} {ρ : Env} : endF [] (.rt d ρ) = .ok d [] := rfl
@[simp] theorem endF_nx0 {ρ : Env} : endF [] (.nx ρ) = .ok .non [] := rfl
@[simp] theorem endF_ex0 {d : D} {ρ : Env} : endF [] (.exc d ρ) = .exc d [] := rfl
@[simp] theorem tg_nm {i : Nat} {d : D} (h : i < ρ.length) : (Tg.nm i).set d ρ = some (ρ.set i (some d)) := by simp [Tg.set, h]
@[simp] theorem tg_tpL {ts : List Tg} {o : Bool} {ds : List D} : (Tg.tp ts).set (.lst o ds) ρ = tgSetL ts ds ρ := by simp [Tg.set]
@[simp] theorem tg_tp {ts : List Tg} {ds : List D} : (Tg.tp ts).set (.tup ds) ρ = tgSetL ts ds ρ := by simp [Tg.set]
@[simp] theorem tgL_nil : tgSetL [] [] ρ = some ρ := by simp [tgSetL]
@[simp] theorem tgL_cons {t : Tg} {ts : List Tg} {d : D} {ds : List D} : tgSetL (t :: ts) (d :: ds) ρ = (t.set d ρ).bind (tgSetL ts ds) := by simp [tgSetL]
@[simp] theorem forRun_nil {t : Tg} {S : Env → SRes} : forRun t S [] ρ = .nx ρ := rfl
/-- a step of a loop -/
def loopK (r : SRes) (k : Env → SRes) : SRes := match r with
  | .nx ρ => k ρ
  | .bk ρ => .nx ρ
  | .rt d ρ => .rt d ρ
  | .exc x ρ => .exc x ρ
  | .bad => .bad
@[simp] theorem loopK_nx {k : Env → SRes} : loopK (.nx ρ) k = k ρ := rfl
@[simp] theorem loopK_bk {k : Env → SRes} : loopK (.bk ρ) k = .nx ρ := rfl
@[simp] theorem loopK_rt {k : Env → SRes} {d : D} : loopK (.rt d ρ) k = .rt d ρ := rfl
theorem forRun_cons {t : Tg} {S : Env → SRes} {d : D} {ds : List D} : forRun t S (d :: ds) ρ = (put (t.set d ρ)).andThen fun ρ1 => loopK (S ρ1) (forRun t S ds) := by
  rw [forRun]
  cases t.set d ρ with
  | none => rfl
  | some ρ1 =>
    simp only [put_some, SRes.andThen, loopK]
    cases S ρ1 <;> rfl
theorem while_go {C : Env → Res Bool} {S : Env → SRes} {n : Nat} (h : C ρ = .ok true) : whileRun C S (n + 1) ρ = loopK (S ρ) (whileRun C S n) := by
  rw [whileRun, h]
  unfold loopK
  cases S ρ <;> rfl
theorem while_stop {C : Env → Res Bool} {S : Env → SRes} {n : Nat} (h : C ρ = .ok false) : whileRun C S (n + 1) ρ = .nx ρ := by
  rw [whileRun, h]
end
/-! whole numbers -/
def Bd (k : Nat) (x : Int) : Prop := x.natAbs < 2 ^ k
theorem Bd.mono {j k : Nat} {x : Int} (h : Bd j x) (q : j ≤ k) : Bd k x := Nat.lt_of_lt_of_le h (Nat.pow_le_pow_right (by decide) q)
theorem Bd.mul {j k : Nat} {x y : Int} (h : Bd j x) (q : Bd k y) : Bd (j + k) (x * y) := by
  unfold Bd at *
  rw [Int.natAbs_mul, Nat.pow_add]
  exact Nat.mul_lt_mul'' h q
theorem Bd.add {k : Nat} {x y : Int} (h : Bd k x) (q : Bd k y) : Bd (k + 1) (x + y) := by
  unfold Bd at *
  have := Int.natAbs_add_le x y
  rw [Nat.pow_succ]
  omega
theorem Bd.neg {k : Nat} {x : Int} (h : Bd k x) : Bd k (-x) := by
  unfold Bd at *
  rwa [Int.natAbs_neg]
theorem Bd.sub {k : Nat} {x y : Int} (h : Bd k x) (q : Bd k y) : Bd (k + 1) (x - y) := by
  rw [Int.sub_eq_add_neg]
  exact h.add q.neg
theorem Bd.sml {k : Nat} {x : Int} (h : Bd k x) (q : k ≤ 1900) : sml x = true := by
  have h' := h.mono q
  unfold Bd at h'
  unfold RL.sml
  rw [decide_eq_true_eq]
  by_cases e : x.natAbs = 0
  · rw [e]; decide
  · exact (Nat.log2_lt e).mpr h'
theorem Bd.mulOk {j k : Nat} {x y : Int} (h : Bd j x) (q : Bd k y) (hj : j ≤ 1900) (hk : k ≤ 1900) : mulOk x y = true := by
  unfold RL.mulOk
  rw [h.sml hj, q.sml hk]
  simp
theorem Bd.of_le {k : Nat} {x y : Int} (h : Bd k y) (q : x.natAbs ≤ y.natAbs) : Bd k x := Nat.lt_of_le_of_lt q h
@[simp] theorem opAdd_i {i j : Int} : opAdd (.int i) (.int j) = some (.int (i + j)) := rfl
@[simp] theorem opSub_i {i j : Int} : opSub (.int i) (.int j) = some (.int (i - j)) := rfl
@[simp] theorem opLt_i {i j : Int} : opLt (.int i) (.int j) = some (.bl (decide (i < j))) := rfl
@[simp] theorem opLe_i {i j : Int} : opLe (.int i) (.int j) = some (.bl (decide (i ≤ j))) := rfl
@[simp] theorem opGt_i {i j : Int} : opGt (.int i) (.int j) = some (.bl (decide (j < i))) := rfl
@[simp] theorem opGe_i {i j : Int} : opGe (.int i) (.int j) = some (.bl (decide (j ≤ i))) := rfl
@[simp] theorem fNeg_i {i : Int} : fNeg (.int i) = some (.int (-i)) := rfl
theorem opMul_i {i j : Int} (h : mulOk i j = true) : opMul (.int i) (.int j) = some (.int (i * j)) := by simp [opMul, h]
theorem opFdiv_i {i j : Int} (h : j ≠ 0) (q : sml j = true) : opFdiv (.int i) (.int j) = some (.int (i.fdiv j)) := by simp [opFdiv, h, q]
theorem opMod_i {i j : Int} (h : j ≠ 0) : opMod (.int i) (.int j) = some (.int (i.fmod j)) := by simp [opMod, h]
@[simp] theorem clean_i {i : Int} : (D.int i).clean = true := rfl
@[simp] theorem clean_s {i : Str} : (D.str i).clean = true := rfl
@[simp] theorem clean_b {i : Bool} : (D.bl i).clean = true := rfl
@[simp] theorem clean_n : D.non.clean = true := rfl
@[simp] theorem clean_t {ds : List D} : (D.tup ds).clean = cleanL ds := by simp [D.clean]
@[simp] theorem clean_nil : cleanL [] = true := by simp [cleanL]
@[simp] theorem clean_cons {d : D} {ds : List D} : cleanL (d :: ds) = (d.clean && cleanL ds) := by simp [cleanL]
@[simp] theorem clean_l {ds : List D} : (D.lst false ds).clean = cleanL ds := by simp [D.clean]
@[simp] theorem clean_d {ks : List Key} {ds : List D} : (D.dct false ks ds).clean = cleanL ds := by simp [D.clean]
@[simp] theorem clean_scr {ns : List Int} : (D.scr ns).clean = true := rfl
theorem cleanL_all : ∀ {ds : List D}, cleanL ds = true ↔ ∀ d ∈ ds, d.clean = true
  | [] => by simp
  | d :: ds => by simp [cleanL, cleanL_all (ds := ds)]
@[simp] theorem cleanL_app {ds es : List D} : cleanL (ds ++ es) = (cleanL ds && cleanL es) := by
  induction ds with
  | nil => simp
  | cons d ds ih => simp [cleanL, ih, Bool.and_assoc]
@[simp] theorem cleanL_ints {ns : List Int} : cleanL (ns.map .int) = true := cleanL_all.mpr fun d hd => by
  obtain ⟨i, _, rfl⟩ := List.mem_map.mp hd
  rfl
@[simp] theorem frzL_ints : ∀ {ns : List Int}, frzL (ns.map .int) = ns.map .int
  | [] => by simp [frzL]
  | n :: ns => by simp [frzL, D.frz, frzL_ints (ns := ns)]
@[simp] theorem seqD_l {o : Bool} {ds : List D} (h : cleanL ds = true) : seqD (.lst o ds) = some ds := by simp [seqD, h]
@[simp] theorem seqD_t {ds : List D} (h : cleanL ds = true) : seqD (.tup ds) = some ds := by simp [seqD, h]
@[simp] theorem seqD_scr {ns : List Int} : seqD (.scr ns) = some (ns.map .int) := rfl
@[simp] theorem lstD_l {o : Bool} {ds : List D} (h : cleanL ds = true) : lstD (.lst o ds) = some ds := by simp [lstD, h]
@[simp] theorem lstD_scr {ns : List Int} : lstD (.scr ns) = some (ns.map .int) := rfl
@[simp] theorem fLen_l {o : Bool} {ds : List D} : fLen (.lst o ds) = some (.int ds.length) := rfl
@[simp] theorem fLen_t {ds : List D} : fLen (.tup ds) = some (.int ds.length) := rfl
@[simp] theorem fLen_scr {ns : List Int} : fLen (.scr ns) = some (.int ns.length) := rfl
@[simp] theorem frz_i {i : Int} : (D.int i).frz = .int i := rfl
@[simp] theorem frz_s {i : Str} : (D.str i).frz = .str i := rfl
@[simp] theorem frz_b {i : Bool} : (D.bl i).frz = .bl i := rfl
@[simp] theorem frz_n : D.non.frz = .non := rfl
@[simp] theorem frz_scr {ns : List Int} : (D.scr ns).frz = .scr ns := rfl
@[simp] theorem frz_t {ds : List D} : (D.tup ds).frz = .tup (frzL ds) := by simp [D.frz]
@[simp] theorem frz_l {o : Bool} {ds : List D} : (D.lst o ds).frz = .lst false (frzL ds) := by simp [D.frz]
@[simp] theorem frzL_nil : frzL [] = [] := by simp [frzL]
@[simp] theorem frzL_cons {d : D} {ds : List D} : frzL (d :: ds) = d.frz :: frzL ds := by simp [frzL]
theorem mulOk_l {i j : Int} (h : -(2 ^ 64) < i) (h' : i < 2 ^ 64) : mulOk i j = true := by
  unfold RL.mulOk
  rw [decide_eq_true (p := -(2 ^ 64) < i ∧ i < 2 ^ 64) ⟨h, h'⟩]
  simp
theorem mulOk_r {i j : Int} (h : -(2 ^ 64) < j) (h' : j < 2 ^ 64) : mulOk i j = true := by
  unfold RL.mulOk
  rw [decide_eq_true (p := -(2 ^ 64) < j ∧ j < 2 ^ 64) ⟨h, h'⟩]
  simp
end RL
namespace RL
open PySem PySem.Spec PyProof.Rows L2
theorem atI_nat {α : Type} {xs : List α} (k : Nat) : atI xs (k : Int) = xs[k]? := by
  unfold atI ixN
  by_cases h : k < xs.length
  · have h' : (k : Int) < xs.length := by omega
    have h2 : (0 : Int) ≤ k := by omega
    simp [h', h2]
  · have h' : ¬ (k : Int) < xs.length := by omega
    have h2 : (0 : Int) ≤ k := by omega
    simp [h', h2]
    omega
@[simp] theorem atI_0 {α : Type} {a : α} {l : List α} : atI (a :: l) 0 = some a := atI_nat 0
@[simp] theorem atI_1 {α : Type} {a b : α} {l : List α} : atI (a :: b :: l) 1 = some b := atI_nat 1
@[simp] theorem atI_2 {α : Type} {a b c : α} {l : List α} : atI (a :: b :: c :: l) 2 = some c := atI_nat 2
@[simp] theorem atI_3 {α : Type} {a b c d : α} {l : List α} : atI (a :: b :: c :: d :: l) 3 = some d := atI_nat 3
@[simp] theorem opIx_t {ds : List D} {i : Int} : opIx (.tup ds) (.int i) = atI ds i := rfl
@[simp] theorem opIx_l {o : Bool} {ds : List D} {i : Int} : opIx (.lst o ds) (.int i) = atI ds i := rfl
@[simp] theorem opEq_i {i j : Int} : opEq (.int i) (.int j) = some (.bl (decide (i = j))) := by
  simp [opEq, strs?, D.fit, fitN, D.py, PyData.eqv]
  rfl
@[simp] theorem opNe_i {i j : Int} : opNe (.int i) (.int j) = some (.bl (!decide (i = j))) := by
  simp [opNe, strs?, D.fit, fitN, D.py, PyData.eqv]
  rfl
@[simp] theorem opEq_s {i j : Str} : opEq (.str i) (.str j) = some (.bl (decide (i = j))) := rfl
@[simp] theorem opNe_s {i j : Str} : opNe (.str i) (.str j) = some (.bl (!decide (i = j))) := rfl
theorem eqvAll_same : ∀ {ds : List D}, (∀ d ∈ ds, PyData.eqv d.py d.py = true) → PyData.eqvAll (pyL ds) (pyL ds) = true
  | [], _ => by simp [pyL, PyData.eqvAll]
  | d :: ds, h => by
    simp only [pyL, PyData.eqvAll, h d List.mem_cons_self, Bool.true_and]
    exact eqvAll_same fun e he => h e (List.mem_cons_of_mem _ he)
theorem eqv_same : ∀ {n : Nat} {d : D}, fitN n d = true → PyData.eqv d.py d.py = true
  | n, .non, _ => by simp [D.py, PyData.eqv]
  | n, .bl b, _ => by simp [D.py, PyData.eqv]
  | n, .int b, _ => by simp [D.py, PyData.eqv]
  | n, .str x, h => by simp [D.py, PyData.eqv]
  | 0, .tup ds, h => by simp [fitN] at h
  | n + 1, .tup ds, h => by
    have h' : ∀ d ∈ ds, fitN n d = true := by simpa [fitN] using h
    simp only [D.py, PyData.eqv]
    exact eqvAll_same fun d hd => eqv_same (h' d hd)
  | 0, .lst _ ds, h => by simp [fitN] at h
  | n + 1, .lst _ ds, h => by
    have h' : ∀ d ∈ ds, fitN n d = true := by simpa [fitN] using h
    simp only [D.py, PyData.eqv]
    exact eqvAll_same fun d hd => eqv_same (h' d hd)
  | 0, .dct _ _ _, h => by simp [fitN] at h
  | n + 1, .dct _ _ _, h => by simp [fitN] at h
  | 0, .obj _ _ _ _, h => by simp [fitN] at h
  | n + 1, .obj _ _ _ _, h => by simp [fitN] at h
  | 0, .exn _ _ _, h => by simp [fitN] at h
  | n + 1, .exn _ _ _, h => by simp [fitN] at h
  | 0, .scr _, h => by simp [fitN] at h
  | n + 1, .scr _, h => by simp [fitN] at h
  | 0, .tux _, h => by simp [fitN] at h
  | n + 1, .tux _, h => by simp [fitN] at h
theorem strs_non {x y : D} (h : ∀ s, x ≠ .str s) : strs? x y = none := by
  cases x <;> first | rfl | exact absurd rfl (h _)
/-- data that look alike are equal -/
theorem opEq_same {x y : D} (hx : x.fit = true) (hy : y.fit = true) (h : x.py = y.py) : opEq x y = some (.bl true) := by
  unfold opEq
  cases e : strs? x y with
  | none =>
    simp only [hx, hy, and_self, if_true]
    have := eqv_same hx
    rw [← h, this]
  | some b =>
    cases x <;> cases y <;> simp [strs?] at e
    simp [D.py] at h
    simp [← e, h]
theorem opNe_same {x y : D} (hx : x.fit = true) (hy : y.fit = true) (h : x.py = y.py) : opNe x y = some (.bl false) := by
  unfold opNe
  cases e : strs? x y with
  | none =>
    simp only [hx, hy, and_self, if_true]
    have := eqv_same hx
    rw [← h, this]
    rfl
  | some b =>
    cases x <;> cases y <;> simp [strs?] at e
    simp [D.py] at h
    simp [← e, h]
theorem fRepr_ok {d : D} (h : repOk d = true) : fRepr [d] = some (.str d.py.shown) := by simp [fRepr, h]
end RL

/-! RL, fractions in lowest terms. -/
namespace RL
open PySem PySem.Spec PyProof.Rows L2
def lowN (a b : Int) : Int := b.sign * a / (Int.gcd a b : Int)
def lowD (a b : Int) : Int := b.sign * b / (Int.gcd a b : Int)
theorem gcd_pos {a b : Int} (h : b ≠ 0) : 0 < (Int.gcd a b : Int) := by
  have : 0 < Int.gcd a b := Int.gcd_pos_of_ne_zero_right a h
  omega
theorem low_scale {a b k : Int} (hk : k ≠ 0) (hb : b ≠ 0) : lowN (a * k) (b * k) = lowN a b ∧ lowD (a * k) (b * k) = lowD a b := by
  have e : (Int.gcd (a * k) (b * k) : Int) = (k.natAbs : Int) * (Int.gcd a b : Int) := by
    rw [Int.gcd_mul_right, Int.natCast_mul, Int.mul_comm]
  have hk' : (0 : Int) < k.natAbs := by omega
  have s : k.sign * k = k.natAbs := Int.sign_mul_self k
  constructor
  · unfold lowN
    rw [e, Int.sign_mul, show b.sign * k.sign * (a * k) = (k.natAbs : Int) * (b.sign * a) by rw [← s]; ac_rfl, Int.mul_ediv_mul_of_pos _ _ hk']
  · unfold lowD
    rw [e, Int.sign_mul, show b.sign * k.sign * (b * k) = (k.natAbs : Int) * (b.sign * b) by rw [← s]; ac_rfl, Int.mul_ediv_mul_of_pos _ _ hk']
theorem low_eq {a b c d : Int} (hb : b ≠ 0) (hd : d ≠ 0) (h : a * d = c * b) : lowN a b = lowN c d ∧ lowD a b = lowD c d := by
  have p := low_scale (a := a) (b := b) hd hb
  have q := low_scale (a := c) (b := d) hb hd
  rw [h, Int.mul_comm b d] at p
  exact ⟨p.1.symm.trans q.1, p.2.symm.trans q.2⟩
theorem sg {b : Int} (h : b ≠ 0) : b.sign = 1 ∨ b.sign = -1 := by
  rcases Int.lt_trichotomy b 0 with q | q | q
  · exact .inr (Int.sign_eq_neg_one_of_neg q)
  · exact absurd q h
  · exact .inl (Int.sign_eq_one_of_pos q)
theorem low_dvd (a b : Int) : (Int.gcd a b : Int) ∣ b.sign * a ∧ (Int.gcd a b : Int) ∣ b.sign * b := ⟨Int.dvd_mul_of_dvd_right (Int.gcd_dvd_left ..), Int.dvd_mul_of_dvd_right (Int.gcd_dvd_right ..)⟩
theorem low_mul (a b : Int) : lowN a b * (Int.gcd a b : Int) = b.sign * a ∧ lowD a b * (Int.gcd a b : Int) = b.sign * b := ⟨Int.ediv_mul_cancel (low_dvd a b).1, Int.ediv_mul_cancel (low_dvd a b).2⟩
theorem low_pos {a b : Int} (h : b ≠ 0) : 0 < lowD a b := by
  have p := (low_mul a b).2
  have g := gcd_pos (a := a) h
  have q : 0 < b.sign * b := by rw [Int.sign_mul_self]; omega
  rw [← p] at q
  exact Int.pos_of_mul_pos_left q g
theorem low_cross {a b : Int} (h : b ≠ 0) : lowN a b * b = a * lowD a b := by
  have p := low_mul a b
  have g := gcd_pos (a := a) h
  have e : lowN a b * b * (Int.gcd a b : Int) = a * lowD a b * (Int.gcd a b : Int) := by
    rw [Int.mul_right_comm, p.1, Int.mul_assoc a, p.2]
    ac_rfl
  exact Int.eq_of_mul_eq_mul_right (by omega) e
theorem low_low {a b : Int} (h : b ≠ 0) : lowN (lowN a b) (lowD a b) = lowN a b ∧ lowD (lowN a b) (lowD a b) = lowD a b := low_eq (by have := low_pos (a := a) h; omega) h (low_cross h)
theorem low_ge {a b : Int} (h : b ≠ 0) : (lowN a b).natAbs ≤ a.natAbs ∧ (lowD a b).natAbs ≤ b.natAbs := by
  have s : b.sign.natAbs = 1 := by rcases sg h with e | e <;> rw [e] <;> rfl
  have g := gcd_pos (a := a) h
  have k (x : Int) : (b.sign * x / (Int.gcd a b : Int)).natAbs ≤ x.natAbs := by
    have := Int.natAbs_ediv_le_natAbs (b.sign * x) (Int.gcd a b : Int)
    rwa [Int.natAbs_mul, s, Nat.one_mul] at this
  exact ⟨k a, k b⟩
/-- the step of Euclid's going takes half of the product -/
theorem euclid_half {a b : Nat} (h : b ≤ a) (hb : 0 < b) : 2 * (b * (a % b)) ≤ a * b := by
  have h1 : a % b < b := Nat.mod_lt _ hb
  have h2 : b * (a / b) + a % b = a := Nat.div_add_mod a b
  have h3 : 1 ≤ a / b := (Nat.one_le_div_iff hb).mpr h
  have h4 : b * 1 ≤ b * (a / b) := Nat.mul_le_mul_left b h3
  have h5 : 2 * (a % b) ≤ a := by omega
  calc 2 * (b * (a % b)) = b * (2 * (a % b)) := by ac_rfl
    _ ≤ b * a := Nat.mul_le_mul_left b h5
    _ = a * b := Nat.mul_comm ..
theorem fdiv_exact {a g q : Int} (hg : g ≠ 0) (h : a = g * q) : a.fdiv g = q := by
  rw [h, Int.mul_fdiv_cancel_left q hg]
end RL

/-! RL: places, and what changes there. -/
namespace RL
open PySem PySem.Spec PyProof.Rows L2
/-- what stands at a place; the names' values with another thing there -/
structure Plc where
  at_ : D
  set : D → Env
/-- the value v is what stands at a place -/
def Foc (G : Gd) (P H : Hp) (σ : Sl) (A : List Addr) (v : V) (p : Plc) : Prop := ∃ B R, Rel G P H v p.at_ B ∧ A.Perm (B ++ R) ∧
  ∀ P' H' e' B', Same P P' → (∀ b ∈ R, H' b = H b) → Rel G P' H' v e' B' → ∃ A', EnvRel G P' H' σ (p.set e') A' ∧ A'.Perm (B' ++ R)
section
variable {G : Gd} {P H P1 H1 : Hp} {σ : Sl} {ρ : Env} {A : List Addr} {v : V} {p : Plc}
theorem Foc.ext (F : Foc G P H σ A v p) (st : StRel G P H σ ρ A) (x : Ext P H P1 H1 []) : Foc G P1 H1 σ A v p := by
  obtain ⟨B, R, r, q, w⟩ := F
  have hB : ∀ b ∈ B, b ∈ A := fun b hb => q.symm.subset (List.mem_append_left _ hb)
  have hR : ∀ b ∈ R, b ∈ A := fun b hb => q.symm.subset (List.mem_append_right _ hb)
  refine ⟨B, R, r.ext x fun b hb => st.off b (hB b hb), q, fun P' H' e' B' s h r' => w P' H' e' B' (x.same.trans s) (fun b hb => (h b hb).trans ?_) r'⟩
  exact (x.own (A := R) (fun b hb => st.env.at b (hR b hb)) fun b hb => st.off b (hR b hb)).1 b hb
/-- one item of a list of values -/
theorem RelL.child : ∀ {vs : List V} {ds : List D} {A : List Addr} {j : Nat} {c : D}, RelL G P H vs ds A → ds[j]? = some c → ∃ v B R, vs[j]? = some v ∧ Rel G P H v c B ∧ A.Perm (B ++ R) ∧
    ∀ P' H' c' B', Same P P' → (∀ b ∈ R, H' b = H b) → Rel G P' H' v c' B' → ∃ A', RelL G P' H' vs (ds.set j c') A' ∧ A'.Perm (B' ++ R)
  | _, _, _, _, _, .nil, e => by simp at e
  | _, _, _, 0, _, .cons (v := v) (d := d) (A := A1) (B := B1) r t, e => by
    simp at e
    subst e
    exact ⟨v, A1, B1, rfl, r, .refl _, fun P' H' c' B' s h r' => ⟨_, .cons r' (t.mono s h), .refl _⟩⟩
  | _, _, _, j + 1, _, .cons (A := A1) (B := B1) r t, e => by
    obtain ⟨v, B, R, h1, h2, h3, h4⟩ := RelL.child (j := j) t (by simpa using e)
    refine ⟨v, B, A1 ++ R, by simpa using h1, h2, ?_, fun P' H' c' B' s h r' => ?_⟩
    · exact (h3.append_left A1).trans (List.perm_append_comm_assoc ..)
    · obtain ⟨A', q, p⟩ := h4 P' H' c' B' s (fun b hb => h b (List.mem_append_right _ hb)) r'
      exact ⟨_, .cons (r.mono s fun b hb => h b (List.mem_append_left _ hb)) q, (p.append_left A1).trans (List.perm_append_comm_assoc ..)⟩
end
/-! ### the parts of a thing -/
def ixOf {α : Type} [DecidableEq α] : List α → α → Option Nat
  | [], _ => none
  | k :: ks, j => if k = j then some 0 else (ixOf ks j).map (· + 1)
theorem ixOf_val : ∀ {ks : List Key} {vs : List V} {k : Key} {j : Nat} {v : V}, ixOf ks k = some j → vs[j]? = some v → valV (ks.zip vs) k = some v
  | [], _, _, _, _, e, _ => by simp [ixOf] at e
  | k :: ks, [], _, _, _, _, e => by simp at e
  | k :: ks, w :: vs, i, j, v, e, h => by
    by_cases hk : k = i
    · simp [ixOf, hk] at e
      subst e
      simp at h
      subst h
      simp [valV, hk]
    · simp only [ixOf, hk, if_false, Option.map_eq_some_iff] at e
      obtain ⟨m, e, rfl⟩ := e
      have := ixOf_val e (by simpa using h)
      unfold valV at this ⊢
      rw [List.zip_cons_cons, List.find?_cons_of_neg (by simpa using hk)]
      exact this
theorem ixOf_look {β : Type} : ∀ {ks : List Str} {vs : List β} {k : Str} {j : Nat} {v : β}, ixOf ks k = some j → vs[j]? = some v → (ks.zip vs).lookup k = some v
  | [], _, _, _, _, e, _ => by simp [ixOf] at e
  | k :: ks, [], _, _, _, _, e => by simp at e
  | k :: ks, w :: vs, i, j, v, e, h => by
    by_cases hk : k = i
    · simp [ixOf, hk] at e
      subst e
      simp at h
      subst h
      simp [List.lookup, hk]
    · simp only [ixOf, hk, if_false, Option.map_eq_some_iff] at e
      obtain ⟨m, e, rfl⟩ := e
      have := ixOf_look e (by simpa using h)
      rw [List.zip_cons_cons, List.lookup_cons]
      have hb : (i == k) = false := by simpa using fun z => hk z.symm
      rw [hb]
      exact this
/-- a part, and the thing with another part there -/
def chAt (ds : List D) (j : Option Nat) (up : List D → D) : Option (D × (D → D)) := j.bind fun j => (ds[j]?).map fun c => (c, fun c' => up (ds.set j c'))
def chIx : D → D → Option (D × (D → D))
  | .tup ds, .int i => chAt ds (ixN ds.length i) .tup
  | .lst true ds, .int i => chAt ds (ixN ds.length i) (.lst true)
  | .dct true ks ds, k => (keyOf k).bind fun k => chAt ds (ixOf ks k) (.dct true ks)
  | _, _ => none
def chFld (cs : List Str) (f : Str) : D → Option (D × (D → D))
  | .obj true c ns ds => if c ∈ cs then chAt ds (ixOf ns f) (.obj true c ns) else none
  | _ => none
theorem chAt_some {ds : List D} {j : Option Nat} {up : List D → D} {z : D × (D → D)} (h : chAt ds j up = some z) : ∃ k c, j = some k ∧ ds[k]? = some c ∧ z = (c, fun c' => up (ds.set k c')) := by
  unfold chAt at h
  cases j with
  | none => cases h
  | some k =>
    simp only [Option.bind_some, Option.map_eq_some_iff] at h
    obtain ⟨c, h1, h2⟩ := h
    exact ⟨k, c, rfl, h1, h2.symm⟩
def Plc.sub (p : Plc) (z : D × (D → D)) : Plc := ⟨z.1, fun c' => p.set (z.2 c')⟩
/-! ### places as expressions -/
def tPl (G : Gd) (W : WX) (S : Env → Res Plc) : TE := fun σ H Q => ∃ P ρ A, StRel G P H σ ρ A ∧ match S ρ with
  | .ok p => ∀ v P' H', Ext P H P' H' [] → Foc G P' H' σ A v p → Q v H'
  | .exc x => PostX G P H W σ x
  | .bad => False
structure PlOk (X : Cx) (W : WX) (e : Expr) (S : Env → Res Plc) : Prop where pe : PE X e (tPl (gd X) W S)
section
variable {X : Cx} {W : WX} {e a b : Expr} {pos : Pos} {Sa Sb : Env → Res D} {Pa : Env → Res Plc} {L : List Nat}
def plVar (i : Nat) : Env → Res Plc := fun ρ => match ρ[i]? with
  | some (some d) => .ok ⟨d, fun d' => ρ.set i (some d')⟩
  | _ => .bad
theorem pl_var (i : Nat) {x : Str} {p : Pos} (hN : X.N[i]? = some x := by rfl) (hv : Vis X.env.scope x := by first | exact Or.inl rfl | exact Or.inr (Or.inl rfl) | exact Or.inr (Or.inr rfl)) (hd : (x == ("__debug__" : Str)) = false := by decide)
    (hcd : (x == ("__classdict__" : Str)) = false := by decide) : PlOk X W (.Name x p) (plVar i) := ⟨PE.imp (pe_var hN hv hd hcd) fun σ H Q ⟨P, ρ, A, st, q⟩ => by
  unfold plVar at q
  cases hi : ρ[i]? with
  | none => simp only [hi] at q
  | some o =>
    cases o with
    | none => simp only [hi] at q
    | some d =>
      simp only [hi] at q
      have hl : i < ρ.length := (List.getElem?_eq_some_iff.mp hi).1
      obtain ⟨B, C, pm, qc, hv⟩ := st.env.out hl
      rcases hv with ⟨d', v, h1, h2, r⟩ | ⟨h1, _⟩
      · rw [hi] at h1
        cases h1
        refine ⟨v, h2, q v P H (Ext.refl st.und) ⟨B, C, r, pm, fun P' H' e' B' s h r' => ?_⟩⟩
        obtain ⟨A', p', q'⟩ := (qc.mono s h).put (i := i) r' (by simpa using hl) (by simp [hl])
        rw [List.set_set, EnvRel.set_same h2] at q'
        exact ⟨A', q', p'⟩
      · rw [hi] at h1; cases h1⟩
def plIx (Pa : Env → Res Plc) (Sb : Env → Res D) : Env → Res Plc := fun ρ => (Pa ρ).bind fun p => (Sb ρ).bind fun y => opt ((chIx p.at_ y).map p.sub)
/-- the part's place -/
theorem Foc.part {G : Gd} {P H : Hp} {σ : Sl} {A : List Addr} {v : V} {p : Plc} {ds : List D} {vs : List V} {A0 B0 R : List Addr} {j : Nat} {c : D} {up : List D → D} (q : A.Perm ((A0 ++ B0) ++ R))
    (w : ∀ P' H' e' B', Same P P' → (∀ b ∈ R, H' b = H b) → Rel G P' H' v e' B' → ∃ A', EnvRel G P' H' σ (p.set e') A' ∧ A'.Perm (B' ++ R)) (r : RelL G P H vs ds B0) (hc : ds[j]? = some c)
    (mk : ∀ P' H' ds' B', Same P P' → (∀ b ∈ A0, H' b = H b) → RelL G P' H' vs ds' B' → Rel G P' H' v (up ds') (A0 ++ B')) : ∃ u, vs[j]? = some u ∧ Foc G P H σ A u (p.sub (c, fun c' => up (ds.set j c'))) := by
  obtain ⟨u, B, R1, h1, h2, h3, h4⟩ := r.child hc
  refine ⟨u, h1, B, A0 ++ R1 ++ R, h2, ?_, fun P' H' e' B' s h r' => ?_⟩
  · refine q.trans ((((h3.append_left A0).trans (List.perm_append_comm_assoc ..)).append_right R).trans ?_)
    rw [List.append_assoc]
  · obtain ⟨A1, q1, p1⟩ := h4 P' H' e' B' s (fun b hb => h b (by simp [hb])) r'
    obtain ⟨A2, q2, p2⟩ := w P' H' (up (ds.set j e')) (A0 ++ A1) s (fun b hb => h b (by simp [hb])) (mk P' H' _ _ s (fun b hb => h b (by simp [hb])) q1)
    refine ⟨A2, q2, p2.trans ((((p1.append_left A0).trans (List.perm_append_comm_assoc ..)).append_right R).trans ?_)⟩
    rw [List.append_assoc]
theorem pl_ix (hu : X.A.units + 1 < cLine) (ha : PlOk X W a Pa) (hb : BOk X W b Sb) (hs : PlainIx b := by exact fun _ _ => rfl) : PlOk X W (.Subscript a b pos) (plIx Pa Sb) :=
  ⟨PE.imp (PE.or (pe_ix ix_seq ha.pe hb.pe hs) (pe_dget hu ha.pe hb.pe hs)) fun σ H Q ⟨P, ρ, A, st, h⟩ => by
    unfold plIx at h
    cases hp : Pa ρ with
    | bad => simp only [hp, Res.bind] at h
    | exc x => exact .inl ⟨P, ρ, A, st, by rw [hp]; simp only [hp, Res.bind] at h; exact h⟩
    | ok p =>
      simp only [hp, Res.bind] at h
      by_cases hdc : ∃ o ks ds, p.at_ = .dct o ks ds
      · obtain ⟨o, ks, ds, hdc⟩ := hdc
        refine .inr ⟨P, ρ, A, st, ?_⟩
        rw [hp]
        intro v P1 H1 e1 F
        refine ⟨P1, ρ, A, st.ext e1, ?_⟩
        cases hb : Sb ρ with
        | bad => simp only [hb] at h
        | exc x => simp only [hb] at h; exact PostX.ext h st.und e1
        | ok dy =>
          simp only [hb] at h
          intro v2 P2 H2 B2 e2 r2 o2
          have F2 := F.ext (st.ext e1) e2
          cases hz : chIx p.at_ dy with
          | none => simp only [hz, Option.map, opt] at h
          | some z =>
            simp only [hz, Option.map, opt] at h
            rw [hdc] at hz
            cases o with
            | false => simp [chIx] at hz
            | true =>
              simp only [chIx] at hz
              cases hk : keyOf dy with
              | none => rw [hk] at hz; cases hz
              | some k =>
                rw [hk] at hz
                obtain ⟨j, c, hj, hc, rfl⟩ := chAt_some hz
                obtain ⟨B, R, r, q, w⟩ := F2
                rw [hdc] at r
                cases r with
                | @dctO a ks vs ds A0 hH hl rl =>
                  obtain ⟨u, hu1, Fu⟩ := Foc.part (A0 := [a]) (up := .dct true ks) (by simpa using q) w rl hc fun P' H' ds' B' s hA r' => .dctO (by rw [hA _ List.mem_cons_self]; exact hH) hl r'
                  refine ⟨a, u, rfl, .inl ⟨_, k, .inl hH, ?_, (ixOf_val hj hu1).symm⟩, h u P2 H2 (e1.trans st.und e2) Fu⟩
                  cases r2 <;> simp [keyOf] at hk <;> subst hk <;> rfl
      · refine .inl ⟨P, ρ, A, st, ?_⟩
        rw [hp]
        intro v P1 H1 e1 F
        refine ⟨P1, ρ, A, st.ext e1, ?_⟩
        cases hb : Sb ρ with
        | bad => simp only [hb] at h
        | exc x => simp only [hb] at h; exact PostX.ext h st.und e1
        | ok dy =>
          simp only [hb] at h
          intro v2 P2 H2 B2 e2 r2 o2
          have F2 := F.ext (st.ext e1) e2
          cases hz : chIx p.at_ dy with
          | none => simp only [hz, Option.map, opt] at h
          | some z =>
            simp only [hz, Option.map, opt] at h
            obtain ⟨B, R, r, q, w⟩ := F2
            cases hd : p.at_ with
            | tup ds =>
              rw [hd] at hz r
              cases r2 <;> simp only [chIx, reduceCtorEq] at hz
              obtain ⟨j, c, hj, hc, rfl⟩ := chAt_some hz
              cases r with
              | @tup a vs ds A0 hH rl =>
                obtain ⟨u, hu1, Fu⟩ := Foc.part (A0 := []) (up := .tup) (by simpa using q) w rl hc fun P' H' ds' B' s hA r' => .tup (Same.sqT s hH) r'
                refine .inr (.inl ⟨a, vs, _, u, rfl, rfl, e2.und.seqT hH, ?_, h u P2 H2 (e1.trans st.und e2) Fu⟩)
                unfold atI
                rw [rl.length, hj]
                exact hu1
            | lst o ds =>
              rw [hd] at hz r
              cases o with
              | false => cases r2 <;> simp [chIx] at hz
              | true =>
                cases r2 <;> simp only [chIx, reduceCtorEq] at hz
                obtain ⟨j, c, hj, hc, rfl⟩ := chAt_some hz
                cases r with
                | @lstO a vs ds A0 hH rl =>
                  obtain ⟨u, hu1, Fu⟩ := Foc.part (A0 := [a]) (up := .lst true) (by simpa using q) w rl hc fun P' H' ds' B' s hA r' => .lstO (by rw [hA _ List.mem_cons_self]; exact hH) r'
                  refine .inl ⟨a, vs, _, u, rfl, rfl, SqL.of hH, ?_, h u P2 H2 (e1.trans st.und e2) Fu⟩
                  unfold atI
                  rw [rl.length, hj]
                  exact hu1
            | dct o ks ds => exact absurd ⟨o, ks, ds, hd⟩ hdc
            | _ => rw [hd] at hz; cases dy <;> simp [chIx] at hz⟩
/-! ### a thing at a place is changed -/
theorem Foc.done {G : Gd} {P0 H0 P H : Hp} {σ : Sl} {ρ : Env} {A : List Addr} {p : Plc} (st : StRel G P0 H0 σ ρ A) (x : Ext P0 H0 P H []) {l : Addr} {o' : HO} {e' : D} {B0 R B' : List Addr} (q : A.Perm ((l :: B0) ++ R))
    (w : ∀ P' H' e' B', Same P P' → (∀ b ∈ R, H' b = H b) → Rel G P' H' (.ref l) e' B' → ∃ A', EnvRel G P' H' σ (p.set e') A' ∧ A'.Perm (B' ++ R)) (r' : Rel G P (upd H l o') (.ref l) e' (l :: B')) (nd : (B' ++ R).Nodup) (nl : l ∉ B') (f : ∀ b ∈ B', P b = none ∧ (H0 b = none ∨ b ∈ A)) :
    ∃ A', After G P0 H0 σ A L P (upd H l o') σ (p.set e') A' := by
  have hl : l ∈ A := q.symm.subset (by simp)
  have hR : ∀ b ∈ R, b ∈ A := fun b hb => q.symm.subset (by simp [hb])
  have nR : l ∉ R := fun z => by
    have n := q.nodup_iff.mp st.nd
    exact (List.nodup_cons.mp n).1 (List.mem_append_right _ z)
  have off : ∀ b ∈ A, P b = none := (x.own st.env.at st.off).2
  obtain ⟨A', q1, p1⟩ := w P (upd H l o') e' (l :: B') (Same.refl P) (fun b hb => upd_ne fun z => nR (z ▸ hb)) r'
  have unl : ∀ o u, H0 l ≠ some (.frz o u) := st.env.unl l hl
  have unl' : ∀ o u, H l ≠ some (.frz o u) := fun o u z => by
    obtain ⟨o1, h1⟩ := st.env.at l hl
    have h2 := x.keep l o1 h1 (st.off l hl) (by simp)
    rw [h2] at z
    cases z
    exact unl _ _ h1
  refine ⟨A', ⟨x.same, fun b u hb => ?_, fun b o h1 h2 h3 => ?_, fun b o u h1 => ?_, fun b o hb => ?_⟩, ⟨fun b u hb => ?_, q1, ?_, fun b hb => ?_, st.mks.mono x.same⟩, fun b hb => ?_, rfl, fun _ _ => rfl⟩
  · have : b ≠ l := fun z => by rw [z, off l hl] at hb; cases hb
    rw [upd_ne this]; exact x.und b u hb
  · have : b ≠ l := fun z => h3 (z ▸ hl)
    rw [upd_ne this]; exact x.keep b o h1 h2 (by simp)
  · have : b ≠ l := fun z => unl o u (z ▸ h1)
    rw [upd_ne this]; exact x.lck b o u h1
  · rcases x.new b o hb with z | z | z
    · exact .inl z
    · exact .inr (.inl z)
    · simp at z
  · have : b ≠ l := fun z => by rw [z, off l hl] at hb; cases hb
    rw [upd_ne this]; exact x.und b u hb
  · refine p1.nodup_iff.mpr ?_
    rw [List.cons_append]
    refine List.nodup_cons.mpr ⟨fun z => ?_, nd⟩
    rcases List.mem_append.mp z with z | z
    · exact nl z
    · exact nR z
  · rcases List.mem_append.mp (p1.subset hb) with z | z
    · rcases List.mem_cons.mp z with rfl | z
      · exact off _ hl
      · exact (f b z).1
    · exact off b (hR b z)
  · rcases List.mem_append.mp (p1.subset hb) with z | z
    · rcases List.mem_cons.mp z with rfl | z
      · exact .inr hl
      · exact (f b z).2
    · exact .inr (hR b z)
/-- what a changing method asks: the thing e at x, arguments ds; what it is then -/
def rMut (G : Gd) (f : D → List D → Option D) : V → List V → Hp → VK → Prop := fun x xs H Q => ∃ P e Be ds Bs, Under P H ∧ Rel G P H x e Be ∧ RelL G P H xs ds Bs ∧ (Be ++ Bs).Nodup ∧ (∀ b ∈ Be ++ Bs, P b = none) ∧ match f e ds with
  | some e' => ∀ l o' v B', x = .ref l → l ∈ Be → l ∉ B' → B'.Nodup → (∀ b ∈ B', b ∈ Be ++ Bs) → Rel G P (upd H l o') x e' (l :: B') → Q v (upd H l o')
  | none => False
def isLstO : D → Bool
  | .lst true _ => true
  | _ => false
/-- x.m(..) as a statement, x a list at a place -/
def sMut (f : D → List D → Option D) (Pl : Env → Res Plc) (Sa : Env → Res (List D)) : Env → SRes := fun ρ => match Pl ρ with
  | .ok p => if isLstO p.at_ = true then (match Sa ρ with
    | .ok ds => (match f p.at_ ds with
      | some e' => .nx (p.set e')
      | none => .bad)
    | .exc x => .exc x ρ
    | .bad => .bad) else .bad
  | .exc x => .exc x ρ
  | .bad => .bad
theorem mut_imp {f : D → List D → Option D} {Pl : Env → Res Plc} {Sa : Env → Res (List D)} {D : Ends} {σ : Sl} {H : Hp} (h : tS (gd X) W L (sMut f Pl Sa) D σ H) :
    tPl (gd X) W Pl σ H fun x H1 => tyV X.K "list" x H1 ∧ tL (gd X) W Sa σ H1 fun xs H2 => rMut (gd X) f x xs H2 fun _ H3 => D.nx σ H3 := by
  obtain ⟨P, ρ, A, st, h⟩ := h
  refine ⟨P, ρ, A, st, ?_⟩
  unfold sMut at h
  cases hp : Pl ρ with
  | bad => simp only [hp] at h
  | exc x => simp only [hp] at h; exact PostX.stmt st h
  | ok p =>
    simp only [hp] at h
    intro v P1 H1 e1 F
    by_cases hl : isLstO p.at_ = true
    · rw [if_pos hl] at h
      refine ⟨?_, P1, ρ, A, st.ext e1, ?_⟩
      · obtain ⟨B, R, r, q, w⟩ := F
        generalize hpa : p.at_ = e at hl r
        cases r with
        | lstO hH rl => exact .inl ⟨rfl, _, SqL.of hH⟩
        | _ => simp [isLstO] at hl
      · cases hs : Sa ρ with
        | bad => simp only [hs] at h
        | exc x => simp only [hs] at h; exact PostX.ext (PostX.stmt st h) st.und e1
        | ok ds =>
          simp only [hs] at h
          intro vs P2 H2 Bs e2 rs fs
          obtain ⟨B, R, r, q, w⟩ := F.ext (st.ext e1) e2
          have st2 := (st.ext e1).ext e2
          have e12 := e1.trans st.und e2
          have hBA : ∀ b ∈ B, b ∈ A := fun b hb => q.symm.subset (List.mem_append_left _ hb)
          have hRA : ∀ b ∈ R, b ∈ A := fun b hb => q.symm.subset (List.mem_append_right _ hb)
          have fsA : ∀ b ∈ Bs, b ∉ A := fun b hb z => by
            obtain ⟨o, ho⟩ := (st.ext e1).env.at b z
            rw [(fs.2 b hb).1] at ho; cases ho
          obtain ⟨n1, n2, n3⟩ := List.nodup_append.mp (q.nodup_iff.mp st.nd)
          refine ⟨P2, p.at_, B, ds, Bs, e2.und, r, rs, List.nodup_append.mpr ⟨n1, fs.1, fun a ha b hb z => fsA b hb (z ▸ hBA a ha)⟩, fun b hb => ?_, ?_⟩
          · rcases List.mem_append.mp hb with z | z
            · exact st2.off b (hBA b z)
            · exact (fs.2 b z).2
          · cases hf : f p.at_ ds with
            | none => simp only [hf] at h
            | some e' =>
              simp only [hf] at h
              intro l o' v' B' hv hlB hlB' nB' sub r'
              subst hv
              obtain ⟨B0, hB0⟩ : ∃ B0, B.Perm (l :: B0) := ⟨_, List.perm_cons_erase hlB⟩
              have nd2 : (B' ++ R).Nodup := List.nodup_append.mpr ⟨nB', n2, fun a ha b hb z => by
                rcases List.mem_append.mp (sub a ha) with y | y
                · exact n3 a y b hb z
                · exact fsA a y (z ▸ hRA b hb)⟩
              have f2 : ∀ b ∈ B', P2 b = none ∧ (H b = none ∨ b ∈ A) := fun b hb => by
                rcases List.mem_append.mp (sub b hb) with y | y
                · exact ⟨st2.off b (hBA b y), .inr (hBA b y)⟩
                · exact ⟨(fs.2 b y).2, .inl (e1.free st.und (fs.2 b y).1)⟩
              obtain ⟨A', a⟩ := Foc.done (L := L) (p := p) (B0 := B0) st e12 (q.trans (hB0.append_right R)) w r' nd2 hlB' f2
              exact h σ P2 (upd H2 l o') A' a
    · rw [if_neg hl] at h; exact h.elim
theorem s_mut {o : Expr} {name : Str} {id : String} {apos cpos : Pos} {es : List Expr} {f : D → List D → Option D} {Pl : Env → Res Plc} {Sa : Env → Res (List D)} (slot : Slot "list" name id) (hty : typeOf (.builtin id) = pure (.type "method_descriptor"))
    (hm : MtR X id (rMut (gd X) f)) (ho : PlOk X W o Pl) (ha : AOk X W (e :: es) Sa) (hbase : attributeBase o name X.env (eval o X.env) = eval o X.env := by rfl)
    (hfew : ((backTo cpos (starEach (e :: es) X.env)).all (fun x => !x.1) && (backToKw cpos (keywordEach [] X.env)).all (fun x => x.1.isSome)
      && decide ((e :: es).length + ([] : List Keyword).length + (if ([] : List Keyword).isEmpty then 0 else 1) < 30)) = true := by rfl)
    (hline : (apos.endLine == cpos.line) = true := by rfl) (hs : starEach (e :: es) X.env = (false, eval e X.env) :: starEach es X.env := by rfl) (hplain : (backTo cpos (starEach es X.env)).any (·.1) = false := by rfl)
    (hsw : swapsWith (.Call (.Attribute o name apos) (e :: es) [] cpos) none pos.line X.env = pure false := by rfl) : SOk X W L (.Expr (.Call (.Attribute o name apos) (e :: es) [] cpos) pos) (sMut f Pl Sa) :=
  ⟨PS.imp (ps_expr (pe_bm PySem.F.plainAttrs_list slot hty hm ho.pe ha.pa hbase hfew hline hs hplain) hsw) fun D σ H h => mut_imp h⟩
theorem s_mut0 {o : Expr} {name : Str} {id : String} {apos cpos : Pos} {f : D → List D → Option D} {Pl : Env → Res Plc} (slot : Slot "list" name id) (hty : typeOf (.builtin id) = pure (.type "method_descriptor"))
    (hm : MtR X id (rMut (gd X) f)) (ho : PlOk X W o Pl) (hbase : attributeBase o name X.env (eval o X.env) = eval o X.env := by rfl) (hline : (apos.endLine == cpos.line) = true := by rfl)
    (hsw : swapsWith (.Call (.Attribute o name apos) [] [] cpos) none pos.line X.env = pure false := by rfl) : SOk X W L (.Expr (.Call (.Attribute o name apos) [] [] cpos) pos) (sMut f Pl sNil) :=
  ⟨PS.imp (ps_expr (pe_bm0 PySem.F.plainAttrs_list slot hty hm ho.pe hbase hline) hsw) fun D σ H h => by
    obtain ⟨P, ρ, A, st, q⟩ := mut_imp h
    refine ⟨P, ρ, A, st, ?_⟩
    cases hp : Pl ρ with
    | bad => rw [hp] at q; exact q
    | exc x => rw [hp] at q; exact q
    | ok p =>
      rw [hp] at q
      intro v P1 H1 e1 F
      obtain ⟨q1, P2, ρ2, A2, st2, q2⟩ := q v P1 H1 e1 F
      exact ⟨q1, q2 [] P2 H1 [] (Ext.refl st2.und) .nil Fresh.nil⟩⟩
/-! ### the methods of lists -/
def mAppend : D → List D → Option D
  | .lst true ds, [d] => if ds.length < sizeLine then some (.lst true (ds ++ [d])) else none
  | _, _ => none
theorem rMut1 {G : Gd} {f : D → List D → Option D} {x : V} {xs : List V} {H : Hp} {Q : VK} (h : rMut G f x xs H Q) (hl : ∀ e ds e', f e ds = some e' → isLstO e = true) :
    ∃ P l vs es B0 ds Bs e', x = .ref l ∧ Under P H ∧ H l = some (.lst vs) ∧ RelL G P H vs es B0 ∧ RelL G P H xs ds Bs ∧ l ∉ B0 ∧ l ∉ Bs ∧ (B0 ++ Bs).Nodup ∧ f (.lst true es) ds = some e' ∧
      ∀ vs' es' B' v, e' = .lst true es' → B'.Nodup → (∀ b ∈ B', b ∈ B0 ++ Bs) → RelL G P H vs' es' B' → Q v (upd H l (.lst vs')) := by
  obtain ⟨P, e, Be, ds, Bs, un, r, rs, nd, off, h⟩ := h
  cases hf : f e ds with
  | none => rw [hf] at h; exact h.elim
  | some e' =>
    rw [hf] at h
    have := hl _ _ _ hf
    cases r with
    | @lstO l vs es B0 hH rl =>
      obtain ⟨n1, n2, n3⟩ := List.nodup_append.mp nd
      obtain ⟨m1, m2⟩ := List.nodup_cons.mp n1
      have lb : l ∉ Bs := fun z => n3 l List.mem_cons_self l z rfl
      refine ⟨P, l, vs, es, B0, ds, Bs, e', rfl, un, hH, rl, rs, m1, lb, List.nodup_append.mpr ⟨m2, n2, fun a ha b hb => n3 a (List.mem_cons_of_mem _ ha) b hb⟩, hf, fun vs' es' B' v he nB sub r' => ?_⟩
      have nl : l ∉ B' := fun z => (List.mem_append.mp (sub l z)).elim m1 lb
      refine h l _ v B' rfl List.mem_cons_self nl nB (fun b hb => ?_) ?_
      · rcases List.mem_append.mp (sub b hb) with z | z
        · exact List.mem_append_left _ (List.mem_cons_of_mem _ z)
        · exact List.mem_append_right _ z
      · rw [he]
        exact .lstO upd_same (r'.mono (Same.refl P) fun b hb => upd_ne fun z => nl (z ▸ hb))
    | _ => simp [isLstO] at this
theorem m_append : MtR X "list.append" (rMut (gd X) mAppend) := MtR.imp mt_append fun x xs H Q h => by
  obtain ⟨P, l, vs, es, B0, ds, Bs, e', rfl, un, hH, rl, rs, n1, n2, nd, hf, q⟩ := rMut1 h fun e ds e' h => by
    unfold mAppend at h; split at h <;> first | rfl | cases h
  cases rs with
  | nil => simp [mAppend] at hf
  | @cons v d B1 vs1 ds1 B2 r1 r2 =>
    cases r2 with
    | cons _ _ => simp [mAppend] at hf
    | nil =>
      simp only [mAppend] at hf
      split at hf
      · rename_i c
        cases hf
        rw [List.append_nil] at nd q
        exact ⟨l, vs, v, rfl, rfl, hH, by rw [rl.length]; exact c, q _ _ (B0 ++ B1) _ rfl nd (fun b hb => hb) (rl.snoc r1)⟩
      · cases hf
def mExtend : D → List D → Option D
  | .lst true ds, [.lst _ es] => if ds.length + es.length ≤ sizeLine then some (.lst true (ds ++ es)) else none
  | _, _ => none
theorem RelL.app {G : Gd} {P H : Hp} : ∀ {xs ys : List V} {ds es : List D} {A B : List Addr}, RelL G P H xs ds A → RelL G P H ys es B → RelL G P H (xs ++ ys) (ds ++ es) (A ++ B)
  | _, _, _, _, _, _, .nil, t => t
  | _, _, _, _, _, _, .cons r1 r2, t => by
    rw [List.append_assoc]
    exact .cons r1 (RelL.app r2 t)
theorem Under.lst {P H : Hp} (u : Under P H) {a : Addr} {xs : List V} (h : P a = some (.lst xs)) : H a = some (.lst xs) := by
  rcases u _ _ h with z | ⟨_, _, z, _⟩ | ⟨_, _, z, _⟩
  · exact z
  · cases z
  · cases z
theorem m_extend : MtR X "list.extend" (rMut (gd X) mExtend) := MtR.imp mt_extend fun x xs H Q h => by
  obtain ⟨P, l, vs, es, B0, ds, Bs, e', rfl, un, hH, rl, rs, n1, n2, nd, hf, q⟩ := rMut1 h fun e ds e' h => by
    unfold mExtend at h; split at h <;> first | rfl | cases h
  cases rs with
  | nil => simp [mExtend] at hf
  | @cons v d B1 vs1 ds1 B2 r1 r2 =>
    cases r2 with
    | cons _ _ => cases d <;> simp [mExtend] at hf
    | nil =>
      rw [List.append_nil] at nd q
      cases r1 with
      | @lstF a ws fs hP rf =>
        simp only [mExtend] at hf
        split at hf
        · rename_i c
          cases hf
          exact ⟨l, a, vs, ws, rfl, rfl, hH, un.lst hP, by rw [rl.length, rf.length]; exact c, q _ _ (B0 ++ []) _ rfl nd (fun b hb => hb) (rl.app rf)⟩
        · cases hf
      | @lstO a ws fs B3 hP rf =>
        simp only [mExtend] at hf
        split at hf
        · rename_i c
          cases hf
          obtain ⟨k1, k2, k3⟩ := List.nodup_append.mp nd
          exact ⟨l, a, vs, ws, rfl, rfl, hH, hP, by rw [rl.length, rf.length]; exact c, q _ _ (B0 ++ B3) _ rfl (List.nodup_append.mpr ⟨k1, (List.nodup_cons.mp k2).2, fun a ha b hb => k3 a ha b (List.mem_cons_of_mem _ hb)⟩) (fun b hb => by
            rcases List.mem_append.mp hb with z | z
            · exact List.mem_append_left _ z
            · exact List.mem_append_right _ (List.mem_cons_of_mem _ z)) (rl.app rf)⟩
        · cases hf
      | _ => simp [mExtend] at hf
def mReverse : D → List D → Option D
  | .lst true ds, [] => if cleanL ds = true then some (.lst true ds.reverse) else none
  | _, _ => none
theorem m_reverse : MtR X "list.reverse" (rMut (gd X) mReverse) := MtR.imp mt_reverse fun x xs H Q h => by
  obtain ⟨P, l, vs, es, B0, ds, Bs, e', rfl, un, hH, rl, rs, n1, n2, nd, hf, q⟩ := rMut1 h fun e ds e' h => by
    unfold mReverse at h; split at h <;> first | rfl | cases h
  cases rs with
  | cons _ _ => simp [mReverse] at hf
  | nil =>
    simp only [mReverse] at hf
    split at hf
    · rename_i c
      cases hf
      exact ⟨l, vs, rfl, rfl, hH, q _ _ [] _ rfl List.nodup_nil (fun b hb => by simp at hb) (rl.nil_of c).rev⟩
    · cases hf
def mClear : D → List D → Option D
  | .lst true _, [] => some (.lst true [])
  | _, _ => none
theorem m_clear : MtR X "list.clear" (rMut (gd X) mClear) := MtR.imp mt_clear fun x xs H Q h => by
  obtain ⟨P, l, vs, es, B0, ds, Bs, e', rfl, un, hH, rl, rs, n1, n2, nd, hf, q⟩ := rMut1 h fun e ds e' h => by
    unfold mClear at h; split at h <;> first | rfl | cases h
  cases rs with
  | cons _ _ => simp [mClear] at hf
  | nil =>
    simp only [mClear, Option.some.injEq] at hf
    subst hf
    exact ⟨l, vs, rfl, rfl, hH, q _ _ [] _ rfl List.nodup_nil (fun b hb => by simp at hb) .nil⟩
end
end RL

/-! RL: objects of the text's own classes. -/
namespace RL
open PySem PySem.Spec PyProof.Rows L2
/-- f is a field that instances of these classes may have -/
structure FldOk (K : PySem.W.Frag) (mg : Str → Option Value) (f : Str) (cs : List Str) : Prop where
  ex : ∀ c ∈ cs, ∃ C, mg c = some (.ref C) ∧ Cls K C ∧ NoAttr K C f
/-- instances of c answer to m by a def that does what φ says -/
structure MthOk (P : Program) (w : World) (K : PySem.W.Frag) (mg : Str → Option Value) (base : Heap) (c m : Str) (k : Nat) (ps : List Str) (L : List Nat) (φ : List D → FR) : Prop where
  ex : ∃ f fd C, FnG P w K mg base k f fd ps (spF ⟨K, mg⟩ ps.length L φ) ∧ Binds K fd ps [] ∧ mg c = some (.ref C) ∧ Cls K C ∧ Meth K C m f
/-- the class c, made by an __init__ that does what φ says -/
structure MkOk (P : Program) (w : World) (K : PySem.W.Frag) (mg : Str → Option Value) (base : Heap) (c : Str) (k : Nat) (ps : List Str) (φ : List D → FR) : Prop where
  ex : ∃ f fd C, FnG P w K mg base k f fd ps (spF ⟨K, mg⟩ ps.length [0] φ) ∧ Binds K fd ps [] ∧ mg c = some (.ref C) ∧ Mk K C f
section
variable {X : Cx} {W : WX} {e a b o : Expr} {es : List Expr} {pos apos : Pos} {Sa Sb So : Env → Res D} {Ss : Env → Res (List D)} {Pa : Env → Res Plc} {L : List Nat} {f m c : Str} {cs : List Str}
/-! ### fields read -/
def getF (cs : List Str) (f : Str) : D → Option D
  | .obj _ c ns ds => if c ∈ cs then (ixOf ns f).bind fun j => ds[j]? else none
  | _ => none
def sFld (cs : List Str) (f : Str) (S : Env → Res D) : Env → Res D := fun ρ => (S ρ).bind fun d => opt (getF cs f d)
theorem Under.ins {P H : Hp} (u : Under P H) {a C dx : Addr} {fs : List (Str × V)} (h : P a = some (.ins C dx fs)) : H a = some (.ins C dx fs) := by
  rcases u _ _ h with z | ⟨_, _, z, _⟩ | ⟨_, _, z, _⟩
  · exact z
  · cases z
  · cases z
/-- an instance's object -/
theorem obj_of {G : Gd} {P H : Hp} {v : V} {o : Bool} {ns : List Str} {ds : List D} {B : List Addr} (u : Under P H) (r : Rel G P H v (.obj o c ns ds) B) : ∃ a C dx vs B0, v = .ref a ∧ G.mg c = some (.ref C) ∧ H a = some (.ins C dx (ns.zip vs)) ∧ ns.length = vs.length ∧ RelL G P H vs ds B0 ∧ ∀ b ∈ B0, b ∈ B := by
  cases r with
  | objF hc q l r => exact ⟨_, _, _, _, _, rfl, hc, u.ins q, l, r, fun b hb => hb⟩
  | objO hc q l r => exact ⟨_, _, _, _, _, rfl, hc, q, l, r, fun b hb => List.mem_cons_of_mem _ hb⟩
theorem b_fld (hf : FldOk X.K X.mg f cs) (ha : BOk X W a Sa) (hb : attributeBase a f X.env (eval a X.env) = eval a X.env := by rfl) : BOk X W (.Attribute a f pos) (sFld cs f Sa) :=
  ⟨PE.imp (pe_fld ha.pe hb) fun σ H Q ⟨P, ρ, A, st, h⟩ => ⟨P, ρ, A, st, by
    unfold sFld at h
    cases hs : Sa ρ with
    | bad => simp only [hs, Res.bind] at h
    | exc x => simp only [hs, Res.bind] at h; exact h
    | ok d =>
      simp only [hs, Res.bind] at h
      intro v P1 H1 B e1 r off
      cases hg : getF cs f d with
      | none => simp only [hg, opt] at h
      | some z =>
        simp only [hg, opt] at h
        cases d with
        | obj ob c ns ds =>
          simp only [getF] at hg
          split at hg
          · rename_i hc
            obtain ⟨a, C, dx, vs, B0, rfl, mg, hH, hl, rl, sub⟩ := obj_of e1.und r
            obtain ⟨C', mg', cl, na⟩ := hf.ex _ hc
            have : C' = C := by
              have := mg.symm.trans mg'
              cases this; rfl
            subst this
            cases hj : ixOf ns f with
            | none => rw [hj] at hg; cases hg
            | some j =>
              rw [hj] at hg
              obtain ⟨w, B1, h1, h2, h3⟩ := rl.get hg
              exact ⟨a, C', dx, _, w, rfl, hH, cl, na, ixOf_look hj h1, h w P1 H1 B1 e1 h2 fun b hb => off b (sub b (h3 b hb))⟩
          · cases hg
        | _ => simp [getF] at hg⟩⟩
theorem e_fld (hf : FldOk X.K X.mg f cs) (ha : BOk X W a Sa) (hb : attributeBase a f X.env (eval a X.env) = eval a X.env := by rfl) : EOk X W (.Attribute a f pos) (sCl (sFld cs f Sa)) := (b_fld hf ha hb).eo
/-- a field as a place -/
def plFld (cs : List Str) (f : Str) (Pa : Env → Res Plc) : Env → Res Plc := fun ρ => (Pa ρ).bind fun p => opt ((chFld cs f p.at_).map p.sub)
theorem pl_fld (hf : FldOk X.K X.mg f cs) (ha : PlOk X W a Pa) (hb : attributeBase a f X.env (eval a X.env) = eval a X.env := by rfl) : PlOk X W (.Attribute a f pos) (plFld cs f Pa) :=
  ⟨PE.imp (pe_fld ha.pe hb) fun σ H Q ⟨P, ρ, A, st, h⟩ => ⟨P, ρ, A, st, by
    unfold plFld at h
    cases hs : Pa ρ with
    | bad => simp only [hs, Res.bind] at h
    | exc x => simp only [hs, Res.bind] at h; exact h
    | ok p =>
      simp only [hs, Res.bind] at h
      intro v P1 H1 e1 F
      cases hz : chFld cs f p.at_ with
      | none => simp only [hz, Option.map, opt] at h
      | some z =>
        simp only [hz, Option.map, opt] at h
        obtain ⟨B, R, r, q, w⟩ := F
        cases hd : p.at_ with
        | obj ob c ns ds =>
          rw [hd] at hz r
          cases ob with
          | false => simp [chFld] at hz
          | true =>
            simp only [chFld] at hz
            split at hz
            · rename_i hc
              obtain ⟨j, cc, hj, hcc, rfl⟩ := chAt_some hz
              cases r with
              | @objO a dx C c ns vs ds A0 mg hH hl rl =>
                obtain ⟨C', mg', cl, na⟩ := hf.ex _ hc
                have : C' = C := by
                  have := mg.symm.trans mg'
                  cases this; rfl
                subst this
                obtain ⟨u, hu1, Fu⟩ := Foc.part (A0 := [a]) (up := .obj true c ns) (by simpa using q) w rl hcc fun P' H' ds' B' s hA r' => .objO mg (by rw [hA _ List.mem_cons_self]; exact hH) hl r'
                exact ⟨a, C', dx, _, u, rfl, hH, cl, na, ixOf_look hj hu1, h u P1 H1 e1 Fu⟩
            · cases hz
        | _ => rw [hd] at hz; simp [chFld] at hz⟩⟩
/-! ### fields stored -/
def putFN (f : Str) : List Str → List Str
  | [] => [f]
  | g :: ns => if g = f then g :: ns else g :: putFN f ns
def putFD {α : Type} (f : Str) (d : α) : List Str → List α → List α
  | g :: ns, x :: ds => if g = f then d :: ds else x :: putFD f d ns ds
  | _, _ => [d]
theorem putF_zip {f : Str} {v : V} : ∀ {ns : List Str} {vs : List V}, ns.length = vs.length → putF f v (ns.zip vs) = (putFN f ns).zip (putFD f v ns vs) ∧ (putFN f ns).length = (putFD f v ns vs).length
  | [], [], _ => ⟨rfl, rfl⟩
  | [], _ :: _, h => by simp at h
  | _ :: _, [], h => by simp at h
  | g :: ns, x :: vs, h => by
    have ih := putF_zip (f := f) (v := v) (ns := ns) (vs := vs) (by simpa using h)
    simp only [List.zip_cons_cons, putF, putFN, putFD]
    by_cases e : g = f
    · simp only [e, if_true, List.zip_cons_cons, List.length_cons]
      exact ⟨trivial, by simpa using h⟩
    · simp only [e, if_false, List.zip_cons_cons, List.length_cons, ih.1, ih.2]
      exact ⟨trivial, trivial⟩
/-- one more field, or another thing in one -/
theorem RelL.putF {G : Gd} {P H : Hp} {f : Str} {v : V} {d : D} {Bv : List Addr} (r : Rel G P H v d Bv) : ∀ {ns : List Str} {vs : List V} {ds : List D} {B : List Addr}, RelL G P H vs ds B → ns.length = vs.length → ∃ B1, RelL G P H (putFD f v ns vs) (putFD f d ns ds) (B1) ∧ (∃ R, B1.Perm (Bv ++ R) ∧ R.Sublist B)
  | [], _, _, _, .nil, _ => ⟨Bv ++ [], .cons r .nil, [], .refl _, List.Sublist.refl _⟩
  | _ :: _, _, _, _, .nil, h => by simp at h
  | [], _, _, _, .cons _ _, h => by simp at h
  | g :: ns, _, _, _, .cons (A := A1) (B := B1) r1 t, h => by
    simp only [putFD]
    by_cases e : g = f
    · simp only [e, if_true]
      exact ⟨_, .cons r t, B1, .refl _, List.sublist_append_right _ _⟩
    · simp only [e, if_false]
      obtain ⟨B2, q, R, p, s⟩ := RelL.putF (f := f) r (ns := ns) t (by simpa using h)
      exact ⟨_, .cons r1 q, A1 ++ R, (p.append_left A1).trans (List.perm_append_comm_assoc ..), List.Sublist.append_left s A1⟩
def setF (cs : List Str) (f : Str) (d : D) : D → Option D
  | .obj true c ns ds => if c ∈ cs ∧ ns.length < 1000 then some (.obj true c (putFN f ns) (putFD f d ns ds)) else none
  | _ => none
/-- o.f = e -/
def sSetF (cs : List Str) (f : Str) (fz : Bool) (Pl : Env → Res Plc) (S : Env → Res D) : Env → SRes := fun ρ => match S ρ with
  | .ok d => (match Pl ρ with
    | .ok p => (match setF cs f (if fz then d.frz else d) p.at_ with
      | some d' => .nx (p.set d')
      | none => .bad)
    | .exc x => .exc x ρ
    | .bad => .bad)
  | .exc x => .exc x ρ
  | .bad => .bad
/-- a value that is given up, perhaps -/
theorem fz_of {G : Gd} {P H P1 H1 : Hp} {B : List Addr} {d : D} {v : V} (u : Under P H) (e : Ext P H P1 H1 []) (r : Rel G P1 H1 v d B) (f : Fresh P1 H B) (fz : Bool) : ∃ P2 B2, Ext P H P2 H1 [] ∧ Same P1 P2 ∧ Rel G P2 H1 v (if fz then d.frz else d) B2 ∧ Fresh P2 H B2 ∧ ∀ b ∈ B2, b ∈ B := by
  cases fz with
  | false => exact ⟨P1, B, e, Same.refl _, r, f, fun b hb => hb⟩
  | true =>
    have g := give_ext (A := B) e.und fun b hb => (f.2 b hb).2
    refine ⟨give P1 H1 B, [], ⟨e.same.trans g.same, g.und, e.keep, e.lck, fun b w q => ?_⟩, g.same, r.frz g.same fun b hb => give_in hb, Fresh.nil, fun b hb => by simp at hb⟩
    rcases g.new b w q with z | z | z
    · exact e.new b w z
    · exact .inr (.inl (e.free u z))
    · exact .inr (.inl (f.2 b z).1)
theorem s_setF (fz : Bool) {Se : Env → Res D} {Pl : Env → Res Plc} (hf : FldOk X.K X.mg f cs) (ho : PlOk X W o Pl) (he : EOk X W e Se) (hs : swapsWith e (some (.Attribute o f apos)) pos.line X.env = pure false := by rfl) :
    SOk X W L (.Assign [.Attribute o f apos] e pos) (sSetF cs f fz Pl Se) := ⟨PS.imp (ps_fld ho.pe he.pe hs) fun D σ H ⟨P, ρ, A, st, h⟩ => ⟨P, ρ, A, st, by
  unfold sSetF at h
  cases hse : Se ρ with
  | bad => simp only [hse] at h
  | exc x => simp only [hse] at h; exact PostX.stmt st h
  | ok d =>
    simp only [hse] at h
    intro v P1 H1 B e1 r fr
    obtain ⟨P2, B2, e2, sm, r2, f2, sub2⟩ := fz_of st.und e1 r fr fz
    refine ⟨P2, ρ, A, st.ext e2, ?_⟩
    cases hp : Pl ρ with
    | bad => simp only [hp] at h
    | exc x => simp only [hp] at h; exact PostX.ext (PostX.stmt st h) st.und e2
    | ok p =>
      simp only [hp] at h
      intro u P3 H3 e3 F
      cases hz : setF cs f (if fz then d.frz else d) p.at_ with
      | none => simp only [hz] at h
      | some d' =>
        simp only [hz] at h
        obtain ⟨B, R, rp, q, w⟩ := F
        cases hd : p.at_ with
        | obj ob c ns ds =>
          rw [hd] at hz rp
          cases ob with
          | false => simp [setF] at hz
          | true =>
            simp only [setF] at hz
            split at hz
            · rename_i hc
              cases hz
              cases rp with
              | @objO a dx C c ns vs ds A0 mg hH hl rl =>
                obtain ⟨C', mg', cl, na⟩ := hf.ex _ hc.1
                have : C' = C := by
                  have := mg.symm.trans mg'
                  cases this; rfl
                subst this
                have e13 := e2.trans st.und e3
                have r3 := r2.ext e3 fun b hb => (f2.2 b hb).2
                obtain ⟨z1, z2⟩ := putF_zip (f := f) (v := v) hl
                obtain ⟨B1, q1, R1, p1, s1⟩ := RelL.putF (f := f) r3 rl hl
                have st3 := st.ext e13
                have hA : ∀ b ∈ a :: A0, b ∈ A := fun b hb => q.symm.subset (List.mem_append_left _ hb)
                have B2A : ∀ b ∈ B2, b ∉ A := fun b hb z => by
                  obtain ⟨ob, hob⟩ := st.env.at b z
                  rw [(f2.2 b hb).1] at hob; cases hob
                obtain ⟨n1, n2, n3⟩ := List.nodup_append.mp (q.nodup_iff.mp st.nd)
                obtain ⟨m1, m2⟩ := List.nodup_cons.mp n1
                have mem1 : ∀ b ∈ B1, b ∈ B2 ∨ b ∈ A0 := fun b hb => (List.mem_append.mp (p1.subset hb)).imp id fun z => s1.subset z
                have na1 : a ∉ B1 := fun z => by
                  rcases mem1 a z with y | y
                  · exact B2A a y (hA a List.mem_cons_self)
                  · exact m1 y
                have nd1 : B1.Nodup := p1.nodup_iff.mpr (List.nodup_append.mpr ⟨f2.1, m2.sublist s1, fun x hx y hy z => B2A x hx (z ▸ hA y (List.mem_cons_of_mem _ (s1.subset hy)))⟩)
                have nd2 : (B1 ++ R).Nodup := List.nodup_append.mpr ⟨nd1, n2, fun x hx y hy z => by
                  rcases mem1 x hx with k | k
                  · exact B2A x k (z ▸ q.symm.subset (List.mem_append_right _ hy))
                  · exact n3 x (List.mem_cons_of_mem _ k) y hy z⟩
                have fr1 : ∀ b ∈ B1, P3 b = none ∧ (H b = none ∨ b ∈ A) := fun b hb => by
                  rcases mem1 b hb with k | k
                  · exact ⟨(e3.own r2.at fun b hb => (f2.2 b hb).2).2 b k, .inl (f2.2 b k).1⟩
                  · exact ⟨st3.off b (hA b (List.mem_cons_of_mem _ k)), .inr (hA b (List.mem_cons_of_mem _ k))⟩
                have rr : Rel (gd X) P3 (upd H3 a (.ins C' dx (putF f v (ns.zip vs)))) (.ref a) (.obj true c (putFN f ns) (putFD f (if fz then d.frz else d) ns ds)) (a :: B1) := by
                  rw [z1]
                  exact .objO mg upd_same z2 (q1.mono (Same.refl _) fun b hb => upd_ne fun z => na1 (z ▸ hb))
                obtain ⟨A', af⟩ := Foc.done (L := L) (p := p) (B0 := A0) st e13 q w rr nd2 na1 fr1
                exact ⟨a, C', dx, _, rfl, hH, cl, na, by rw [List.length_zip]; have := hc.2; omega, h σ _ _ A' af⟩
            · cases hz
        | _ => rw [hd] at hz; simp [setF] at hz⟩⟩
/-! ### methods -/
/-- a method's reading, for one class -/
def mthC (c m : Str) (n : Nat) (φ : List D → FR) (So : Env → Res D) (Ss : Env → Res (List D)) : Env → Res D := fun ρ => (So ρ).bind fun o => match o with
  | .obj _ c' ns _ => if c' = c ∧ m ∉ ns then (Ss ρ).bind fun ds => if ds.length + 1 = n then (match φ (frzL (o :: ds)) with
    | .ok d _ => .ok d
    | .exc x _ => .exc x
    | .bad => .bad) else .bad else .bad
  | _ => .bad
theorem look_zip {ns : List Str} {vs : List V} {m : Str} (h : m ∉ ns) : (ns.zip vs).lookup m = none := by
  induction ns generalizing vs with
  | nil => rfl
  | cons g ns ih =>
    cases vs with
    | nil => rfl
    | cons v vs =>
      rw [List.zip_cons_cons, List.lookup_cons]
      have hb : (m == g) = false := by simpa using fun z => h (by simp [z])
      rw [hb]
      exact ih fun z => h (List.mem_cons_of_mem _ z)
/-- the promise, from what a meaning wants -/
theorem spF_res {G : Gd} {φ : List D → FR} {n : Nat} {P H P1 H1 : Hp} {vs : List V} {ds : List D} {B : List Addr} {Q : VK} {E : XK} {W : WX} {σ : Sl} (u : Under P H) (mk : Marks G P) (e : Ext P H P1 H1 []) (r : RelL G P1 H1 vs ds B) (f : Fresh P1 H B) (hn : ds.length = n)
    (h : match (match φ (frzL ds) with
      | .ok d _ => Res.ok d
      | .exc x _ => .exc x
      | .bad => .bad) with
      | .ok d => Post G P H Q d
      | .exc x => PostX G P H W σ x
      | .bad => False) (hE : ∀ cls d H', W cls d σ H' → E cls d H') : spF G n [] φ vs H1 Q E := by
  refine spF_of (W := W) (σ := σ) u mk e r f (r.length.trans hn) ?_ hE
  cases hφ : φ (frzL ds) <;> simp only [hφ] at h <;> exact h
variable {k : Nat} {ps : List Str} {φ : List D → FR}
theorem mth_one (F : MthOk X.prog X.w X.K X.mg X.base c m k ps [] φ) (hr : GRoom k X.A) (tk : Takes X W) (ho : EOk X W o So) (ha : AOk X W (e :: es) Ss) {pl : Sem Bool} (hst : starEach (e :: es) X.env = (false, eval e X.env) :: starEach es X.env) (hpl : (backTo pos (starEach es X.env)).any (·.1) = false)
    (ht : eval (.Call (.Attribute o m apos) (e :: es) [] pos) X.env = (do
      let ov ← eval o X.env
      standAt apos.atName
      let (f, first) ← holding [ov] (getMethod ov m pl)
      callWith pos f first (backTo pos (starEach (e :: es) X.env)) (backToKw pos (keywordEach [] X.env)))) :
    PE X (.Call (.Attribute o m apos) (e :: es) [] pos) (tE (gd X) W (mthC c m ps.length φ So Ss)) := by
  obtain ⟨f, fd, C, F, hb, mgC, cl, hm⟩ := F.ex
  refine ⟨fun pins s σ H Q I ⟨P, ρ, A, st, h⟩ => ?_⟩
  have h1 : tE (gd X) W So σ H fun x H1 => ∃ a dx fs, x = .ref a ∧ H1 a = some (.ins C dx fs) ∧ fs.lookup m = none ∧ tL (gd X) W Ss σ H1 fun vs H2 => spF (gd X) ps.length [] φ (x :: vs) H2 Q fun cls d H' => W cls d σ H' := by
    refine ⟨P, ρ, A, st, ?_⟩
    unfold mthC at h
    cases hso : So ρ with
    | bad => simp only [hso, Res.bind] at h
    | exc x => simp only [hso, Res.bind] at h; exact h
    | ok d =>
      simp only [hso, Res.bind] at h
      intro v P1 H1 B1 e1 r1 f1
      cases d with
      | obj ob c' ns ds =>
        simp only at h
        by_cases hc : c' = c ∧ m ∉ ns
        · rw [if_pos hc] at h
          obtain ⟨rfl, hn⟩ := hc
          obtain ⟨a, C', dx, vs, B0, rfl, mg, hH, hl, rl, sub⟩ := obj_of e1.und r1
          have : C' = C := by
            have := mg.symm.trans mgC
            cases this; rfl
          subst this
          refine ⟨a, dx, _, rfl, hH, look_zip hn, P1, ρ, A, st.ext e1, ?_⟩
          cases hs : Ss ρ with
          | bad => simp only [hs] at h
          | exc x => simp only [hs] at h; exact PostX.ext h st.und e1
          | ok ds' =>
            simp only [hs] at h
            intro vs' P2 H2 B2 e2 r2 f2
            by_cases hnn : ds'.length + 1 = ps.length
            · rw [if_pos hnn] at h
              have o1 : ∀ b ∈ B1, P1 b = none := fun b hb => (f1.2 b hb).2
              have fr : Fresh P2 H (B1 ++ B2) := by
                refine ⟨List.nodup_append.mpr ⟨f1.1, f2.1, fun x hx y hy z => ?_⟩, fun b hb => ?_⟩
                · obtain ⟨oo, hoo⟩ := r1.at x hx
                  rw [z, (f2.2 y hy).1] at hoo; cases hoo
                · rcases List.mem_append.mp hb with hb | hb
                  · exact ⟨(f1.2 b hb).1, (e2.own r1.at o1).2 b hb⟩
                  · exact ⟨e1.free st.und (f2.2 b hb).1, (f2.2 b hb).2⟩
              exact spF_res (W := W) (σ := σ) st.und st.mks (e1.trans st.und e2) (.cons (r1.ext e2 o1) r2) fr (by simpa using hnn) h fun _ _ _ z => z
            · rw [if_neg hnn] at h; exact h.elim
        · rw [if_neg hc] at h; exact h.elim
      | _ => exact (show False from h).elim
  refine PySem.W.methodCall_KW (pl := pl) (thn (ho.pe.run pins s σ H _ I h1) fun u s1 ⟨x, H1, I1, rx, a, dx, fs, ex, ea, l, q⟩ => ?_) ht
  subst ex
  obtain rfl : u = Value.ref a := rx
  refine getmeth_ok I1 ea cl hm l ?_
  refine PySem.W.callWith_K (first := [.ref a]) (h₀ := X.base) I.ok.mod.kin hm.kp (thn (ha.pa.run pos pins s1 σ H1 _ I1 q) fun us s2 ⟨vs, H2, I2, r, q2⟩ => ⟨I2.kIn, ?_⟩) hst hpl
  exact run_fnG (us := .ref a :: us) (vs := .ref a :: vs) F hr hb tk I2 (.cons rfl r) q2
theorem mth_one0 (F : MthOk X.prog X.w X.K X.mg X.base c m k ps [] φ) (hr : GRoom k X.A) (tk : Takes X W) (ho : EOk X W o So) {pl : Sem Bool}
    (ht : eval (.Call (.Attribute o m apos) [] [] pos) X.env = (do
      let ov ← eval o X.env
      standAt apos.atName
      let (f, first) ← holding [ov] (getMethod ov m pl)
      callWith pos f first (backTo pos (starEach [] X.env)) (backToKw pos (keywordEach [] X.env)))) :
    PE X (.Call (.Attribute o m apos) [] [] pos) (tE (gd X) W (mthC c m ps.length φ So sNil)) := by
  obtain ⟨f, fd, C, F, hb, mgC, cl, hm⟩ := F.ex
  refine ⟨fun pins s σ H Q I ⟨P, ρ, A, st, h⟩ => ?_⟩
  have h1 : tE (gd X) W So σ H fun x H1 => ∃ a dx fs, x = .ref a ∧ H1 a = some (.ins C dx fs) ∧ fs.lookup m = none ∧ spF (gd X) ps.length [] φ [x] H1 Q fun cls d H' => W cls d σ H' := by
    refine ⟨P, ρ, A, st, ?_⟩
    unfold mthC at h
    cases hso : So ρ with
    | bad => simp only [hso, Res.bind] at h
    | exc x => simp only [hso, Res.bind] at h; exact h
    | ok d =>
      simp only [hso, Res.bind] at h
      intro v P1 H1 B1 e1 r1 f1
      cases d with
      | obj ob c' ns ds =>
        simp only at h
        by_cases hc : c' = c ∧ m ∉ ns
        · rw [if_pos hc] at h
          obtain ⟨rfl, hn⟩ := hc
          obtain ⟨a, C', dx, vs, B0, rfl, mg, hH, hl, rl, sub⟩ := obj_of e1.und r1
          have : C' = C := by
            have := mg.symm.trans mgC
            cases this; rfl
          subst this
          refine ⟨a, dx, _, rfl, hH, look_zip hn, ?_⟩
          simp only [sNil] at h
          by_cases hnn : ([] : List D).length + 1 = ps.length
          · rw [if_pos hnn] at h
            exact spF_res (W := W) (σ := σ) st.und st.mks e1 (.cons (B := []) r1 .nil) (by simpa using f1) (by simpa using hnn) h fun _ _ _ z => z
          · rw [if_neg hnn] at h; exact h.elim
        · rw [if_neg hc] at h; exact h.elim
      | _ => exact (show False from h).elim
  refine PySem.W.methodCall_KW (pl := pl) (thn (ho.pe.run pins s σ H _ I h1) fun u s1 ⟨x, H1, I1, rx, a, dx, fs, ex, ea, l, q⟩ => ?_) ht
  subst ex
  obtain rfl : u = Value.ref a := rx
  refine getmeth_ok I1 ea cl hm l ?_
  exact PySem.W.callWith_K0 (first := [.ref a]) I1.kIn hm.kp (run_fnG (us := [.ref a]) (vs := [.ref a]) F hr hb tk I1 (.cons rfl .nil) q)
/-- the classes whose instances answer to m, and how -/
inductive TabOk (P : Program) (w : World) (K : PySem.W.Frag) (mg : Str → Option Value) (base : Heap) (m : Str) (k : Nat) (ps : List Str) : List (Str × (List D → FR)) → Prop
  | nil : TabOk P w K mg base m k ps []
  | cons {c : Str} {φ : List D → FR} {tab : List (Str × (List D → FR))} {j : Nat} : MthOk P w K mg base c m j ps [] φ → j ≤ k → TabOk P w K mg base m k ps tab → TabOk P w K mg base m k ps ((c, φ) :: tab)
def tabGo (tab : List (Str × (List D → FR))) (c : Str) : Option (List D → FR) := match tab with
  | [] => none
  | (c', φ) :: r => if c = c' then some φ else tabGo r c
def sMeth (m : Str) (tab : List (Str × (List D → FR))) (n : Nat) (So : Env → Res D) (Ss : Env → Res (List D)) : Env → Res D := fun ρ => (So ρ).bind fun o => match o with
  | .obj _ c ns _ => if m ∉ ns then (match tabGo tab c with
    | some φ => (Ss ρ).bind fun ds => if ds.length + 1 = n then (match φ (frzL (o :: ds)) with
      | .ok d _ => .ok d
      | .exc x _ => .exc x
      | .bad => .bad) else .bad
    | none => .bad) else .bad
  | _ => .bad
theorem tabGo_mem {c : Str} {φ : List D → FR} : ∀ {tab : List (Str × (List D → FR))}, tabGo tab c = some φ → (c, φ) ∈ tab
  | [], h => by cases h
  | (c', φ') :: tab, h => by
    simp only [tabGo] at h
    split at h
    · rename_i e; cases h; rw [e]; exact List.mem_cons_self
    · exact List.mem_cons_of_mem _ (tabGo_mem h)
theorem tab_pe {tab : List (Str × (List D → FR))} {ex : Expr} {n : Nat} (hne : tab ≠ []) (h : ∀ c φ, (c, φ) ∈ tab → PE X ex (tE (gd X) W (mthC c m n φ So Ss))) : PE X ex (tE (gd X) W (sMeth m tab n So Ss)) := by
  have key : ∀ tab : List (Str × (List D → FR)), (∀ c φ, (c, φ) ∈ tab → PE X ex (tE (gd X) W (mthC c m n φ So Ss))) → PE X ex fun σ H Q => ∃ c φ, (c, φ) ∈ tab ∧ tE (gd X) W (mthC c m n φ So Ss) σ H Q := by
    intro tab
    induction tab with
    | nil => intro _; exact ⟨fun _ _ _ _ _ _ ⟨_, _, q, _⟩ => by simp at q⟩
    | cons x tab ih =>
      intro h
      obtain ⟨c, φ⟩ := x
      refine PE.imp (PE.or (h c φ List.mem_cons_self) (ih fun c' φ' q => h c' φ' (List.mem_cons_of_mem _ q))) fun σ H Q ⟨c', φ', q, t⟩ => ?_
      rcases List.mem_cons.mp q with e | q
      · cases e; exact .inl t
      · exact .inr ⟨c', φ', q, t⟩
  refine PE.imp (key tab h) fun σ H Q ⟨P, ρ, A, st, q⟩ => ?_
  unfold sMeth at q
  cases hs : So ρ with
  | bad => simp only [hs, Res.bind] at q
  | exc x =>
    simp only [hs, Res.bind] at q
    cases tab with
    | nil => exact absurd rfl hne
    | cons y tab =>
      obtain ⟨c, φ⟩ := y
      refine ⟨c, φ, List.mem_cons_self, P, ρ, A, st, ?_⟩
      simp only [mthC, hs, Res.bind]
      exact q
  | ok d =>
    simp only [hs, Res.bind] at q
    cases d with
    | obj ob c ns ds =>
      simp only at q
      by_cases hm : m ∉ ns
      · rw [if_pos hm] at q
        cases ht : tabGo tab c with
        | none => rw [ht] at q; exact q.elim
        | some φ =>
          rw [ht] at q
          refine ⟨c, φ, tabGo_mem ht, P, ρ, A, st, ?_⟩
          simp only [mthC, hs, Res.bind, hm, not_false_eq_true, and_self, if_true]
          exact q
      · rw [if_neg hm] at q; exact q.elim
    | _ => exact (show False from q).elim
theorem TabOk.get {P : Program} {w : World} {K : PySem.W.Frag} {mg : Str → Option Value} {base : Heap} {m : Str} {k : Nat} {ps : List Str} {tab : List (Str × (List D → FR))} (h : TabOk P w K mg base m k ps tab) {c : Str} {φ : List D → FR} (q : (c, φ) ∈ tab) : ∃ j, j ≤ k ∧ MthOk P w K mg base c m j ps [] φ := by
  induction h with
  | nil => simp at q
  | cons F hj t ih =>
    rcases List.mem_cons.mp q with e | q
    · cases e; exact ⟨_, hj, F⟩
    · exact ih q
/-- o.m(e, ..) -/
theorem e_meth {tab : List (Str × (List D → FR))} {pl : Sem Bool} {j : Nat} (T : TabOk X.prog X.w X.K X.mg X.base m j ps tab) (hr : GRoom k X.A) (tk : Takes X W) (ho : EOk X W o So) (ha : AOk X W (e :: es) Ss) (hj : j ≤ k := by decide) (hne : tab ≠ [] := by exact List.cons_ne_nil _ _)
    (hst : starEach (e :: es) X.env = (false, eval e X.env) :: starEach es X.env := by rfl) (hpl : (backTo pos (starEach es X.env)).any (·.1) = false := by rfl)
    (ht : eval (.Call (.Attribute o m apos) (e :: es) [] pos) X.env = (do
      let ov ← eval o X.env
      standAt apos.atName
      let (f, first) ← holding [ov] (getMethod ov m pl)
      callWith pos f first (backTo pos (starEach (e :: es) X.env)) (backToKw pos (keywordEach [] X.env))) := by rfl) : EOk X W (.Call (.Attribute o m apos) (e :: es) [] pos) (sMeth m tab ps.length So Ss) :=
  ⟨tab_pe hne fun c φ q => by
    obtain ⟨i, hi, F⟩ := T.get q
    exact mth_one F (hr.mono (Nat.le_trans hi hj)) tk ho ha hst hpl ht⟩
/-- o.m() -/
theorem e_meth0 {tab : List (Str × (List D → FR))} {pl : Sem Bool} {j : Nat} (T : TabOk X.prog X.w X.K X.mg X.base m j ps tab) (hr : GRoom k X.A) (tk : Takes X W) (ho : EOk X W o So) (hj : j ≤ k := by decide) (hne : tab ≠ [] := by exact List.cons_ne_nil _ _)
    (ht : eval (.Call (.Attribute o m apos) [] [] pos) X.env = (do
      let ov ← eval o X.env
      standAt apos.atName
      let (f, first) ← holding [ov] (getMethod ov m pl)
      callWith pos f first (backTo pos (starEach [] X.env)) (backToKw pos (keywordEach [] X.env))) := by rfl) : EOk X W (.Call (.Attribute o m apos) [] [] pos) (sMeth m tab ps.length So sNil) :=
  ⟨tab_pe hne fun c φ q => by
    obtain ⟨i, hi, F⟩ := T.get q
    exact mth_one0 F (hr.mono (Nat.le_trans hi hj)) tk ho ht⟩
/-! ### a new instance -/
theorem run_makeG {pins : List (Addr × Obj)} {σ : Sl} {H : Hp} {s : Shared} {Q : VK} {us : List Value} {vs : List V} {f C : Addr} {fd : FuncData} {sp : Sp} (M : Mk X.K C f) (F : FnG X.prog X.w X.K X.mg X.base k f fd ps sp) (hr : GRoom (k + 1) X.A) (hb : Binds X.K fd ps [])
    (tk : Takes X W) (I : Inv X pins σ H s) (r : Vals vs us)
    (h : ∀ x dx, H x = none → H dx = none → dx ≠ x → sp (.ref x :: vs) (upd (upd H dx (.own x)) x (.ins C dx [])) (fun v H2 => v = .non ∧ Q (.ref x) H2) fun cls d H' => W cls d σ H') :
    wpAny (model X.prog X.w) X.A (call (.ref C) us) (EP X pins σ Q) X.xe s := by
  have hq := h (s.heap.objs.size + 1) s.heap.objs.size (I.hok.fresh (Nat.le_succ _)) (I.hok.fresh (Nat.le_refl _)) (Nat.ne_of_lt (Nat.lt_succ_self _))
  have I2 := Inv.made (C := C) I
  have r2 : Vals (V.ref (s.heap.objs.size + 1) :: vs) (Value.ref (s.heap.objs.size + 1) :: us) := .cons rfl r
  have hl : (Value.ref (s.heap.objs.size + 1) :: us).length = ps.length := by
    have e := r2.length
    rw [F.len _ _ _ _ hq] at e
    exact e.symm
  have bt := hb { s with heap := (s.heap.push PySem.W.emptyDict).push (PySem.W.instObj C s.heap.objs.size) } (Value.ref (s.heap.objs.size + 1) :: us) I2.kIn (by rw [List.append_nil]; exact hl)
  rw [List.append_nil] at bt
  refine wpAny_call (make_map (f := f) I.kIn M.makes M.init (beq_iff_eq.mp M.fn) (codeAny_mono (F.run _ X.stack _ _ ⟨Value.ref (s.heap.objs.size + 1) :: us, []⟩ (Value.ref (s.heap.objs.size + 1) :: us) _ _ _ ⟨hr.r.make C us [], hr.g⟩
    (I2.env0.make C us []) bt r2 hq) fun r s' hq' => ?_))
  cases r with
  | error e => exact tk e s' (XE.of_call I2 (fun _ _ _ z => z) hq')
  | ok fl =>
    cases fl with
    | ret u =>
      obtain ⟨v, H', I3, rv, ev, q3⟩ := I2.after hq'
      subst ev
      exact ⟨rv, ⟨V.ref (s.heap.objs.size + 1), H', I3, rfl, q3⟩⟩
    | next => exact False.elim hq'
    | brk => exact False.elim hq'
    | cont => exact False.elim hq'
def mkRes (c : Str) (n : Nat) (φ : List D → FR) (ds : List D) : Res D := if ds.length + 1 = n then (match φ (.obj true c [] [] :: frzL ds) with
  | .ok .non [o] => .ok o
  | .exc x _ => .exc x
  | _ => .bad) else .bad
/-- c(..) -/
def sMake (c : Str) (n : Nat) (φ : List D → FR) (S : Env → Res (List D)) : Env → Res D := fun ρ => (S ρ).bind fun ds => mkRes c n φ ds
theorem make_sp {C : Addr} {σ : Sl} {H P H1 P1 : Hp} {Q : VK} {vs : List V} {ds : List D} {B : List Addr} (hm : X.mg c = some (.ref C)) (u : Under P H) (mk : Marks (gd X) P) (e : Ext P H P1 H1 []) (r : RelL (gd X) P1 H1 vs ds B) (f : Fresh P1 H B)
    (h : match mkRes c ps.length φ ds with
      | .ok d => Post (gd X) P H Q d
      | .exc x => PostX (gd X) P H W σ x
      | .bad => False) : ∀ x dx, H1 x = none → H1 dx = none → dx ≠ x → spF (gd X) ps.length [0] φ (.ref x :: vs) (upd (upd H1 dx (.own x)) x (.ins C dx [])) (fun v H2 => v = .non ∧ Q (.ref x) H2) fun cls d H' => W cls d σ H' := by
  intro x dx hx hdx ne
  unfold mkRes at h
  by_cases hn : ds.length + 1 = ps.length
  · rw [if_pos hn] at h
    obtain ⟨e2, sm⟩ := give_ext0 u e f
    have x1 : (upd H1 dx (HO.own x)) x = none := by rw [upd_ne ne.symm]; exact hx
    have e3 := ext_own (o := .own x) e2.und hdx
    have e4 := ext_own (o := .ins C dx []) e3.und x1
    have e34 := e3.trans e2.und e4
    have e5 := e2.trans u e34
    have Px : give P1 H1 B x = none := e2.und.free hx
    have hxH : H x = none := e2.free u hx
    have rl : RelL (gd X) (give P1 H1 B) (upd (upd H1 dx (.own x)) x (.ins C dx [])) (.ref x :: vs) (.obj true c [] [] :: frzL ds) ([x] ++ []) :=
      .cons (.objO (ns := []) (vs := []) (A := []) hm (by rw [upd_same]; rfl) rfl .nil) (r.frz sm fun b hb => give_in hb)
    refine ⟨by simp [r.length, hn], give P1 H1 B, _, [x], e34.und, mk.mono e2.same, rl, by simp, fun b hb => by simp at hb; subst hb; exact Px, ?_⟩
    cases hφ : φ (.obj true c [] [] :: frzL ds) with
    | bad => rw [hφ] at h; exact h.elim
    | exc z os =>
      rw [hφ] at h
      intro cls d P' H' C' e6 xr rc nd fr
      refine h cls d P' H' ?_ xr
      exact Ext.transA u e5 e6 fun b hb => by simp at hb; subst hb; exact .inl hxH
    | ok dd os =>
      rw [hφ] at h
      intro v P' H' B' C' e6 rv rc nd fr
      cases dd with
      | non =>
        cases os with
        | nil => exact h.elim
        | cons o os =>
          cases os with
          | cons _ _ => exact h.elim
          | nil =>
            cases rv
            refine ⟨rfl, ?_⟩
            have e7 : Ext P H P' H' [] := Ext.transA u e5 e6 fun b hb => by simp at hb; subst hb; exact .inl hxH
            have rc' : RelL (gd X) P' H' [V.ref x] [o] C' := rc
            cases rc' with
            | @cons v0 d0 A0 vs0 ds0 B0 r0 t0 =>
              cases t0
              rw [List.append_nil] at nd fr
              refine h (.ref x) P' H' A0 e7 r0 ⟨by simpa using nd, fun b hb => ?_⟩
              obtain ⟨q1, q2⟩ := fr b (by simpa using hb)
              refine ⟨?_, q1⟩
              rcases q2 with z | z
              · exact e5.free u z
              · simp at z; subst z; exact hxH
      | _ => exact (show False from h).elim
  · rw [if_neg hn] at h; exact h.elim
theorem e_make {x : Str} {p : Pos} {j : Nat} (M : MkOk X.prog X.w X.K X.mg X.base x j ps φ) (hr : GRoom k X.A) (tk : Takes X W) (ha : AOk X W (e :: es) Ss) (hj : j + 1 ≤ k := by decide) (hg : Gl X x := by rfl) (hdb : (x == ("__debug__" : Str)) = false := by decide)
    (he : starEach (e :: es) X.env = (false, eval e X.env) :: starEach es X.env := by rfl) (hpl : (backTo pos (starEach es X.env)).any (·.1) = false := by rfl) : EOk X W (.Call (.Name x p) (e :: es) [] pos) (sMake x ps.length φ Ss) := by
  obtain ⟨f, fd, C, F, hb, hm, M⟩ := M.ex
  refine ⟨⟨fun pins s σ H Q I ⟨P, ρ, A, st, h⟩ => ?_⟩⟩
  have h1 : tL (gd X) W Ss σ H fun vs H1 => ∀ x dx, H1 x = none → H1 dx = none → dx ≠ x → spF (gd X) ps.length [0] φ (.ref x :: vs) (upd (upd H1 dx (.own x)) x (.ins C dx [])) (fun v H2 => v = .non ∧ Q (.ref x) H2) fun cls d H' => W cls d σ H' := by
    refine ⟨P, ρ, A, st, ?_⟩
    unfold sMake at h
    cases hs : Ss ρ with
    | bad => simp only [hs, Res.bind] at h
    | exc x => simp only [hs, Res.bind] at h; exact h
    | ok ds =>
      simp only [hs, Res.bind] at h
      intro vs P1 H1 B e1 r f
      exact make_sp hm st.und st.mks e1 r f h
  refine wpAny_Call_Name_kw (ld_glob I hg hm ?_ hdb)
  refine PySem.W.callWith_K (h₀ := X.base) I.ok.mod.kin M.kp (thn (ha.pa.run pos pins s σ H _ I h1) fun us s1 ⟨vs, H1, I1, r, q⟩ => ⟨I1.kIn, ?_⟩) he hpl
  exact run_makeG M F (hr.mono hj) hb tk I1 r q
theorem e_make0 {x : Str} {p : Pos} {j : Nat} (M : MkOk X.prog X.w X.K X.mg X.base x j ps φ) (hr : GRoom k X.A) (tk : Takes X W) (hj : j + 1 ≤ k := by decide) (hg : Gl X x := by rfl) (hdb : (x == ("__debug__" : Str)) = false := by decide) :
    EOk X W (.Call (.Name x p) [] [] pos) (sMake x ps.length φ sNil) := by
  obtain ⟨f, fd, C, F, hb, hm, M⟩ := M.ex
  refine ⟨⟨fun pins s σ H Q I ⟨P, ρ, A, st, h⟩ => ?_⟩⟩
  refine wpAny_Call_Name_kw (ld_glob I hg hm ?_ hdb)
  exact PySem.W.callWith_K0 I.kIn M.kp (run_makeG (us := []) M F (hr.mono hj) hb tk I .nil (make_sp hm st.und st.mks (Ext.refl st.und) .nil Fresh.nil h))
end
end RL

/-! RL: exceptions of the text's own classes. -/
namespace RL
open PySem PySem.Spec PyProof.Rows L2
/-! ### raise -/
/-- the class c, an exception without own __init__ -/
structure XcOk (K : PySem.W.Frag) (mg : Str → Option Value) (c : Str) : Prop where
  ex : ∃ C, mg c = some (.ref C) ∧ PySem.W.excIn K C [.type "ValueError", .type "Exception", .type "BaseException", .type "object"] "ValueError.__new__" = true ∧ PySem.W.keepIn K (.ref C) = true ∧ PySem.W.subIn K (.ref C) (.type "BaseException") = some true ∧ PySem.W.typeIn K (.ref C) = some (.type "type")
section
variable {X : Cx} {W : WX} {L : List Nat} {pos : Pos}
def sRaise (c : Str) : Env → SRes := fun ρ => .exc (.exn c [] []) ρ
theorem s_raise {x m : Str} {j : Nat} {p p2 p3 : Pos} (T : XcOk X.K X.mg x) (hc : X.calm = true) (tk : Takes X W) (hg : Gl X x := by rfl) (hdb : (x == ("__debug__" : Str)) = false := by decide) : SOk X W L (.Raise (some (.Call (.Name x p) [.Constant (.str m) j p2] [] p3)) none pos) (sRaise x) := by
  obtain ⟨C, gC, q, kC, h1, h2⟩ := T.ex
  exact ⟨PS.imp (ps_raise hc tk (pmk_own PySem.F.excBase_ValueError q gC kC (raises_own h1 h2) hg hdb)) fun D σ H ⟨P, ρ, A, st, h⟩ => h (.ref C) none σ P H A (.refl st) ⟨x, [], [], C, rfl, gC, rfl, .inl ⟨rfl, rfl, rfl⟩⟩⟩
/-! ### what a clause catches -/
def subGo (subs : List (Str × Bool)) (c : Str) : Option Bool := match subs with
  | [] => none
  | (c', b) :: r => if c = c' then some b else subGo r c
/-- the clause of the class h catches these, or not -/
structure SubOk (K : PySem.W.Frag) (mg : Str → Option Value) (h : Str) (subs : List (Str × Bool)) : Prop where
  ex : ∃ C, mg h = some (.ref C) ∧ ∀ c b, (c, b) ∈ subs → ∃ D, mg c = some (.ref D) ∧ PySem.W.exmOne K (.ref D) (.ref C) = some b
theorem subGo_mem {c : Str} {b : Bool} : ∀ {subs : List (Str × Bool)}, subGo subs c = some b → (c, b) ∈ subs
  | [], h => by cases h
  | (c', b') :: r, h => by
    simp only [subGo] at h
    split at h
    · rename_i e; cases h; rw [e]; exact List.mem_cons_self
    · exact List.mem_cons_of_mem _ (subGo_mem h)
/-! ### except x as n: the exception is a thing of ours -/
theorem exT_ok {P : Program} {w : World} {H : Hp} {h : Heap} {a : Addr} {cls : Value} {d : Option Addr} {oe : Obj} {vs : Array Value} (e : h.get? a = some oe) (z : Zc cls d oe) (hd : oe.data = .fields vs) : ObjOk P w H h a (ExT cls d a) :=
  ⟨⟨oe, vs, e, z.1, z.2, hd⟩, ⟨oe, e⟩, fun h1 h2 ⟨o, v, q, r⟩ k => ⟨o, v, k o q, r⟩⟩
theorem exT_ne {a b : Addr} {H : Hp} {o : HO} (h : H b = some o) (n : H a = none) : b ≠ a := ne_of_none h n
/-- the exception that landed is tracked -/
theorem Inv.tracked {pins : List (Addr × Obj)} {σ : Sl} {H : Hp} {s : Shared} {a : Addr} {cls : Value} {d : Option Addr} {oe : Obj} {vs : Array Value} (I : Inv X pins σ H s) (e : s.heap.get? a = some oe) (z : Zc cls d oe) (hd : oe.data = .fields vs) (na : H a = none) (nL : a ≠ X.env.locals)
    (n0 : ∀ o, X.s_0.heap.get? a ≠ some o) (np : ∀ p ∈ X.pn ++ pins, p.1 ≠ a) : Inv X pins σ (upd H a (ExT cls d a)) s := by
  have ne : ∀ b o, X.s_0.heap.get? b = some o → b ≠ a := fun b o q y => n0 o (y ▸ q)
  refine ⟨I.ok, I.os, I.bare, ⟨I.base.keep, I.base.slot, fun b o q n hx => ?_, I.base.there, fun b xs q => ?_, fun b o u q => ?_, fun b ps q => ?_⟩, I.loc, I.cell, ?_, fun x c q => ?_, fun p hp => ?_, fun b u q => ?_, I.len⟩
  · rw [upd_ne (ne b o q)]; exact I.base.free b o q n hx
  · have h1 := I.base.tups b xs q
    rw [upd_ne (ne_of_none h1 na)]; exact h1
  · have h1 := I.base.frzs b o u q
    rw [upd_ne (ne_of_none h1 na)]; exact h1
  · obtain ⟨m, h1⟩ := I.base.tbls b ps q
    exact ⟨m, by rw [upd_ne (ne_of_none h1 na)]; exact h1⟩
  · rw [upd_ne nL.symm]; exact I.free
  · obtain ⟨v, o, ho, hv⟩ := I.cell x c q
    have : c ≠ a := fun y => by
      rw [y, e] at ho
      cases ho
      rw [hd] at hv
      cases hv
    rw [upd_ne this]; exact I.freeC x c q
  · obtain ⟨h1, h2, h3⟩ := I.pin p hp
    exact ⟨h1, by rw [upd_ne (np p hp)]; exact h2, h3⟩
  · by_cases hb : b = a
    · subst hb
      rw [upd_same] at q
      cases q
      exact exT_ok e z hd
    · rw [upd_ne hb] at q
      exact (I.hok b u q).stay (fun c v _ r => r) (fun c r => by rw [upd_ne (ne_of_none r na)]; exact r) fun c xs r => by rw [upd_ne (ne_of_none r na)]; exact r
theorem Inv.toSuite {pins : List (Addr × Obj)} {σ : Sl} {H : Hp} {s : Shared} (I : Inv X pins σ H s) (a : Addr) : Inv (X.suite a (X.pn ++ pins)) [] σ H s :=
  ⟨I.ok.suite _ _, I.os, I.bare, I.base, I.loc, I.cell, I.free, I.freeC, fun p hp => I.pin p (by rw [List.append_nil] at hp; exact hp), I.hok, I.len⟩
theorem Inv.ofSuite {pins pn' : List (Addr × Obj)} {σ : Sl} {H : Hp} {s : Shared} {a : Addr} (I : Inv (X.suite a (X.pn ++ pins)) pn' σ H s) (ok : X.Ok) : Inv X pins σ H s :=
  ⟨ok, I.os, I.bare, I.base, I.loc, I.cell, I.free, I.freeC, fun p hp => I.pin p (List.mem_append_left _ hp), I.hok, I.len⟩
def wAsT (K : PySem.W.Frag) (c : Value) (i : Nat) (ts : TS) (Wout : WX) (D : Ends) : WX := fun cls d σ H =>
  ∃ b, PySem.W.exmOne K cls c = some b ∧ (b = true → ∀ a, H a = none → ts { nx := fun σ' H' => D.nx (σ'.set i none) H', rt := D.rt, bk := fun σ' H' => D.bk (σ'.set i none) H', ct := fun σ' H' => D.ct (σ'.set i none) H' } (σ.set i (some (.ref a))) (upd H a (ExT cls d a))) ∧
    (b = false → Wout cls d σ H)
theorem ps_try_asT {x n : Str} {c : Value} {i : Nat} {body suite : List Stmt} {b₀ : Stmt} {np pos' : Pos} {tb : WX → TS} {ts : TS} {Wout : WX} (hs : X.stack = X.env :: X.outer) (hf : X.env.frame = some X.env.locals) (hex : X.ex = []) (hN : X.N.Nodup) (hi : X.N[i]? = some n) (hln : X.env.kindOf n = some .local) (hc : Names X x c) (tk : Takes X Wout)
    (hb : ∀ (W : WX) (pn : List (Addr × Obj)) (xe : Value → Shared → Prop), Takes (X.tr pn xe) W → PassesOwn (model X.prog X.w) X.A X.env xe → PSs (X.tr pn xe) body (tb W))
    (hsu : ∀ (a : Addr) (pn : List (Addr × Obj)), PSs (X.suite a pn) (b₀ :: suite) ts) :
    PS X (.Try body [.ExceptHandler (some (.Name x np)) (some n) (b₀ :: suite) pos'] [] [] pos) (fun D σ H => tb (wAsT X.K c i ts Wout D) D σ H) := by
  refine ⟨fun pins s σ H D I h => ?_⟩
  have ok := I.ok
  have hfr : X.A.frames = some (X.env :: X.outer) := by rw [ok.frames, hs]
  have hloc : Loc X.env.scope n := .inl hln
  refine wpAny_Try_except ?_
  refine wpAny_mono ((hb (wAsT X.K c i ts Wout D) (X.pn ++ pins) (fun e s₁ => wpAny (model X.prog X.w) X.A (noteFrame e X.env) (fun _ s₂ => wpAny (model X.prog X.w) X.A (setFlight e none) (fun _ s₃ =>
    wpAny (model X.prog X.w) X.A (handleBy e X.env [.ExceptHandler (some (.Name x np)) (some n) (b₀ :: suite) pos']) (SP X pins D) X.xe s₃) X.xe s₂) X.xe s₁) (fun u s' xx => ?_) PassesOwn.looking).run [] s σ H D (I.toTry _) h) (fun f s1 hsp => ?_) (fun e s1 he => he)
  · obtain ⟨a, B, sI, pins', σ', H', cls, d, rfl, J', nb, up, sky, na, os, ag, b, hb1, hyes, hno⟩ := xx
    have J : Inv X pins σ' H' sI := J'.ofTry ok
    have sky' : Sky B (X.env :: X.outer) a (Zc cls d) X.env.locals s'.heap := by rw [← hs]; exact sky
    show wpAny (model X.prog X.w) X.A (noteFrame (.ref a) X.env) _ _ _
    refine Sky.land Zc.steady hfr hf sky' fun h3 fl3 up3 => ?_
    have J3 : Inv X pins σ' H' { s' with heap := h3 } := J.landed nb fl3.1 (up.trans up3) os ag
    obtain ⟨oe3, vs3, he3, hz3, hd3⟩ := fl3.there
    have notFr : ∀ {h : Heap} {o : Obj} {vs : Array Value}, h.FunFrames B (X.env :: X.outer) → h.get? a = some o → o.data = .fields vs → a ∉ frs (X.env :: X.outer) := fun {h o vs} ff e dd hm => by
      obtain ⟨_, o', e', hnf⟩ := ff.mem hm
      rw [e] at e'; cases e'
      exact hnf _ dd
    have nfr := notFr fl3.2.2.1 he3 hd3
    have nL : a ≠ X.env.locals := fun z => nfr (List.mem_filterMap.mpr ⟨X.env, List.mem_cons_self, by rw [hf, z]⟩)
    have nF : a ∉ X.fs := fun hm => by
      obtain ⟨e, he, q⟩ := List.mem_filterMap.mp hm
      exact nfr (List.mem_filterMap.mpr ⟨e, List.mem_cons_of_mem _ he, q⟩)
    have nI : ∀ o, sI.heap.get? a ≠ some o := fun o q => by
      have := nb a o q (by rw [hs]; exact nfr)
      rw [fl3.2.1] at this
      cases this
    have n0 : ∀ o, X.s_0.heap.get? a ≠ some o := fun o q => by
      obtain ⟨o', q'⟩ := J.base.there a o q (by rw [hex]; simp)
      exact nI o' q'
    have np' : ∀ p ∈ X.pn ++ pins, p.1 ≠ a := fun p hp z => nI p.2 (z ▸ (J.pin p hp).1)
    have S3 := J3.suite he3 hd3 na nL nF
    refine wpAny_handleBy_cons (codeAny_handlers_test ?_) (by intro q; cases q)
    have LT : PySem.W.Looks (model X.prog X.w) h3 (typeOf (.ref a)) cls := fun A Q E s k q => wpAny_typeOf_ref (k _ _ he3) (by rw [hz3.1]; exact q)
    have LM := PySem.W.exm_one (M := model X.prog X.w) (J3.kIn) LT hb1
    have test : ∀ {Q : Value → Shared → Prop} {E : Value → Shared → Prop}, Q c { s' with heap := h3 } → wpAny (model X.prog X.w) (X.A.mark (some (.ref a))) (eval (.Name x np) X.env) Q E { s' with heap := h3 } := fun {Q E} q => by
      obtain ⟨hg, hdbg, hm | ⟨hm, hv, hnn⟩⟩ := hc
      · exact ld_glob (X := X.suite a ((a, oe3) :: (X.pn ++ pins))) S3 hg hm q hdbg
      · exact ld_blt (X := X.suite a ((a, oe3) :: (X.pn ++ pins))) S3 hg hm hv q hnn hdbg
    refine test (LM.here ?_)
    cases b with
    | true =>
      refine codeAny_handlers_suite_as ?_
      refine HandSPX.lands_againZ fl3 fun h4 fl4 up4 => ?_
      have J4 : Inv X pins σ' H' { s' with heap := h4 } := J.landed nb fl4.1 ((up.trans up3).trans up4) os ag
      obtain ⟨oe4, vs4, he4, hz4, hd4⟩ := fl4.there
      have S4 := Inv.toSuite (Inv.tracked J4 he4 hz4 hd4 na nL n0 np') a
      refine store_ok (X := X.suite a (X.pn ++ pins)) (v := .ref a) S4 hN hi hloc rfl (fun s5 S5 => ?_) (.inr hln)
      refine wpAny_mono ((hsu a (X.pn ++ pins)).run [] s5 _ _ _ S5 (hyes rfl a na)) (fun f s6 hsp => ?_) (fun _ _ z => False.elim z)
      have end_ : ∀ {σ6 : Sl} {H6 : Hp} {Q : Shared → Prop}, Inv (X.suite a (X.pn ++ pins)) [] σ6 H6 s6 → (∀ s7, Inv X pins (σ6.set i none) H6 s7 → Q s7) →
          wpAny (model X.prog X.w) X.A (do bindName X.env n .none; unbindBehindTheSuite X.env n pos') (fun _ s7 => Q s7) X.xe s6 := fun {σ6 H6 Q} S6 hq => gone_ok (Inv.ofSuite S6 ok) hN hi hln hq
      cases f with
      | next =>
        obtain ⟨σ6, H6, S6, q6⟩ := hsp
        exact end_ S6 fun s7 J7 => ⟨_, _, J7, q6⟩
      | brk =>
        obtain ⟨σ6, H6, S6, q6⟩ := hsp
        exact end_ S6 fun s7 J7 => ⟨_, _, J7, q6⟩
      | cont =>
        obtain ⟨σ6, H6, S6, q6⟩ := hsp
        exact end_ S6 fun s7 J7 => ⟨_, _, J7, q6⟩
      | ret u =>
        obtain ⟨v6, σ6, H6, S6, r6, q6⟩ := hsp
        exact end_ S6 fun s7 J7 => ⟨_, _, _, J7, r6, q6⟩
    | false =>
      show wpAny _ X.A (handleBy (.ref a) X.env []) _ _ _
      refine wpAny_handleBy_nil ?_
      obtain ⟨k1, k2, k3, oe, vs, T, oT, ts', he, hz, hd, h1, hr⟩ := id fl3
      unfold PySem.passOn
      refine wpAny_bind (wpAny_field he hd h1 ?_)
      rw [if_neg (show ¬ ((Value.ref T == Value.none) = true) from by simp)]
      have fin : wpAny (model X.prog X.w) X.A (setFlight (.ref a) X.env.frame) (fun _ s4 => wpAny (model X.prog X.w) X.A (throw (.ref a) : Sem Flow) (SP X pins D) X.xe s4) X.xe { s' with heap := h3 } := by
        rw [hf]
        refine HandSPX.setFlight_upZ fl3 fun h4 hh4 up4 => wpAny_throw (tk _ _ ?_)
        exact ⟨a, B, sI, pins, σ', H', cls, d, rfl, J, nb, (up.trans up3).trans up4, .inr (.inr (by rw [hs]; exact hh4)), na, os, ag, hno rfl⟩
      first
        | exact wpAny_bind (wpAny_pure (wpAny_bind fin))
        | exact wpAny_bind fin
  · cases f with
    | next =>
      obtain ⟨σ', H', J', q⟩ := hsp
      exact wpAny_execs_nil ⟨σ', H', J'.ofTry ok, q⟩
    | brk =>
      obtain ⟨σ', H', J', q⟩ := hsp
      exact ⟨σ', H', J'.ofTry ok, q⟩
    | cont =>
      obtain ⟨σ', H', J', q⟩ := hsp
      exact ⟨σ', H', J'.ofTry ok, q⟩
    | ret u =>
      obtain ⟨v, σ', H', J', r, q⟩ := hsp
      exact ⟨v, σ', H', J'.ofTry ok, r, q⟩
/-! ### the meanings -/
def unset (i : Nat) : SRes → SRes
  | .nx ρ => .nx (ρ.set i none)
  | .rt d ρ => .rt d (ρ.set i none)
  | .bk ρ => .bk (ρ.set i none)
  | .exc _ _ => .bad
  | .bad => .bad
/-- try: S, except h as i: T -/
def sTryAs (i : Nat) (subs : List (Str × Bool)) (S T : Env → SRes) : Env → SRes := fun ρ => match S ρ with
  | .exc (.exn c ns ds) ρ1 => (match subGo subs c with
    | some true => unset i (T (ρ1.set i (some (.exn c ns ds))))
    | some false => .exc (.exn c ns ds) ρ1
    | none => .bad)
  | .exc _ _ => .bad
  | r => r
theorem After.wipe {G : Gd} {P H P' H' : Hp} {σ σ' : Sl} {ρ' : Env} {A A' : List Addr} {i : Nat} (a : After G P H σ A L P' H' σ' ρ' A') (hi : i ∉ L) : ∃ A2, After G P H σ A L P' H' (σ'.set i none) (ρ'.set i none) A2 ∧ ∀ b ∈ A2, b ∈ A' := by
  obtain ⟨C, c1, c2, c3⟩ := a.st.env.drop (i := i)
  refine ⟨C, ⟨a.ext, ⟨a.st.und, ?_, c2 a.st.nd, fun b hb => a.st.off b (c1 b hb), a.st.mks⟩, fun b hb => a.sub b (c1 b hb), by simpa using a.len, fun j hj => ?_⟩, c1⟩
  · by_cases h : i < ρ'.length
    · exact c3.anyAt (by simp [h])
    · rw [List.set_eq_of_length_le (by have := a.st.env.length; omega)]
      exact c3
  · have : i ≠ j := fun e => hi (e ▸ hj)
    rw [List.getElem?_set_ne this]
    exact a.pin j hj
theorem s_tryAs (i : Nat) {x n : Str} {subs : List (Str × Bool)} {body suite : List Stmt} {b₀ : Stmt} {np pos' : Pos} {S T : Env → SRes} (hs : X.stack = X.env :: X.outer) (hf : X.env.frame = some X.env.locals) (hex : X.ex = []) (hN : X.N.Nodup) (hsub : SubOk X.K X.mg x subs) (tk : Takes X W)
    (hb : ∀ (W : WX) (pn : List (Addr × Obj)) (xe : Value → Shared → Prop), Takes (X.tr pn xe) W → PassesOwn (model X.prog X.w) X.A X.env xe → SsOk (X.tr pn xe) W L body S) (hsu : ∀ (a : Addr) (pn : List (Addr × Obj)), SsOk (X.suite a pn) WF L (b₀ :: suite) T)
    (hi : X.N[i]? = some n := by rfl) (hln : X.env.kindOf n = some .local := by rfl) (hg : Gl X x := by rfl) (hdb : (x == ("__debug__" : Str)) = false := by decide) (hL : i ∉ L := by decide) :
    SOk X W L (.Try body [.ExceptHandler (some (.Name x np)) (some n) (b₀ :: suite) pos'] [] [] pos) (sTryAs i subs S T) := by
  obtain ⟨C, gC, hC⟩ := hsub.ex
  refine ⟨PS.imp (ps_try_asT (tb := fun W => tS (gd X) W L S) (ts := tS (gd X) WF L T) hs hf hex hN hi hln ⟨hg, hdb, .inl gC⟩ tk (fun W pn xe t p => (hb W pn xe t p).pss) fun a pn => (hsu a pn).pss) fun Dn σ H ⟨P, ρ, A, st, h⟩ => ⟨P, ρ, A, st, ?_⟩⟩
  unfold sTryAs at h
  cases hS : S ρ with
  | bad => simp only [hS] at h
  | nx ρ1 => simp only [hS] at h; exact h
  | rt d ρ1 => simp only [hS] at h; exact h
  | bk ρ1 => simp only [hS] at h; exact h
  | exc z ρ1 =>
    simp only [hS] at h
    intro cls dx σ1 P1 H1 A1 a xr
    obtain ⟨c, ns, ds, Cc, rfl, gc, rfl, xf⟩ := xr
    simp only at h
    cases hg : subGo subs c with
    | none => rw [hg] at h; exact h.elim
    | some b =>
      rw [hg] at h
      obtain ⟨D', gD, em⟩ := hC c b (subGo_mem hg)
      have : D' = Cc := by
        have := gD.symm.trans gc
        cases this; rfl
      subst this
      refine ⟨b, em, fun hbt ad hn => ?_, fun hbf => ?_⟩
      · subst hbt
        simp only at h
        have un := a.st.und
        have e2 := ext_fix (o := ExT (.ref D') dx ad) un hn
        have rx : Rel (gd X) (upd P1 ad (ExT (.ref D') dx ad)) (upd H1 ad (ExT (.ref D') dx ad)) (.ref ad) (.exn c ns ds) [] := .exn gc upd_same (xf.mono e2.same)
        have st2 := a.st.ext e2
        by_cases hl : i < ρ1.length
        · obtain ⟨A2, st3, sub3⟩ := st2.store (i := i) rx (by simpa using st2.nd) (fun b hb => by simp at hb) hl
          have a2 : After (gd X) P1 H1 σ1 A1 L (upd P1 ad (ExT (.ref D') dx ad)) (upd H1 ad (ExT (.ref D') dx ad)) (σ1.set i (some (.ref ad))) (ρ1.set i (some (.exn c ns ds))) A2 :=
            ⟨e2.more, st3, fun b hb => .inr (by simpa using sub3 b hb), by simp, fun j hj => by rw [List.getElem?_set_ne (fun e => hL (by rw [e]; exact hj))]⟩
          have a12 := a.trans st.und a2
          refine ⟨_, _, A2, st3, ?_⟩
          cases hT : T (ρ1.set i (some (.exn c ns ds))) with
          | bad => rw [hT] at h; exact h.elim
          | exc y ρ2 => rw [hT] at h; exact h.elim
          | nx ρ2 =>
            rw [hT] at h
            intro σ' P' H' A' b3
            obtain ⟨A4, a4, _⟩ := (a12.trans st.und b3).wipe hL
            exact h _ P' H' A4 a4
          | bk ρ2 =>
            rw [hT] at h
            intro σ' P' H' A' b3
            obtain ⟨A4, a4, _⟩ := (a12.trans st.und b3).wipe hL
            exact h _ P' H' A4 a4
          | rt d ρ2 =>
            rw [hT] at h
            intro v σ' P' H' A' B b3 q1 q2 q3
            obtain ⟨A4, a4, s4⟩ := (a12.trans st.und b3).wipe hL
            obtain ⟨n1, n2, n3⟩ := List.nodup_append.mp q2
            exact h v _ P' H' A4 B a4 q1 (List.nodup_append.mpr ⟨n1, a4.st.nd, fun x hx y hy => n3 x hx y (s4 y hy)⟩) (a12.newB st.und q3)
        · have hset : ρ1.set i (some (D.exn c ns ds)) = ρ1 := List.set_eq_of_length_le (by omega)
          have hlσ : σ1.length = ρ1.length := a.st.env.length
          have hsetσ : σ1.set i (some (.ref ad)) = σ1 := List.set_eq_of_length_le (by omega)
          rw [hset] at h
          rw [hsetσ]
          have a2 : After (gd X) P1 H1 σ1 A1 L (upd P1 ad (ExT (.ref D') dx ad)) (upd H1 ad (ExT (.ref D') dx ad)) σ1 ρ1 A1 := .pure a.st e2
          have a12 := a.trans st.und a2
          refine ⟨_, _, A1, st2, ?_⟩
          cases hT : T ρ1 with
          | bad => rw [hT] at h; exact h.elim
          | exc y ρ2 => rw [hT] at h; exact h.elim
          | nx ρ2 =>
            rw [hT] at h
            intro σ' P' H' A' b3
            obtain ⟨A4, a4, _⟩ := (a12.trans st.und b3).wipe hL
            exact h _ P' H' A4 a4
          | bk ρ2 =>
            rw [hT] at h
            intro σ' P' H' A' b3
            obtain ⟨A4, a4, _⟩ := (a12.trans st.und b3).wipe hL
            exact h _ P' H' A4 a4
          | rt d ρ2 =>
            rw [hT] at h
            intro v σ' P' H' A' B b3 q1 q2 q3
            obtain ⟨A4, a4, s4⟩ := (a12.trans st.und b3).wipe hL
            obtain ⟨n1, n2, n3⟩ := List.nodup_append.mp q2
            exact h v _ P' H' A4 B a4 q1 (List.nodup_append.mpr ⟨n1, a4.st.nd, fun x hx y hy => n3 x hx y (s4 y hy)⟩) (a12.newB st.und q3)
      · subst hbf
        simp only at h
        exact h (.ref D') dx σ1 P1 H1 A1 a ⟨c, ns, ds, D', rfl, gc, rfl, xf⟩
/-! ### clauses without a name -/
def hdGo (ρ : Env) (x : D) (c : Str) : List (List (Str × Bool) × (Env → SRes)) → SRes
  | [] => .exc x ρ
  | (subs, T) :: r => match subGo subs c with
    | some true => (match T ρ with
      | .exc _ _ => .bad
      | z => z)
    | some false => hdGo ρ x c r
    | none => .bad
def sTryH (hs : List (List (Str × Bool) × (Env → SRes))) (S : Env → SRes) : Env → SRes := fun ρ => match S ρ with
  | .exc (.exn c ns ds) ρ1 => hdGo ρ1 (.exn c ns ds) c hs
  | .exc _ _ => .bad
  | r => r
inductive HOk (X : Cx) (L : List Nat) : List ExceptHandler → List (List (Str × Bool) × (Env → SRes)) → List (Value × (Addr → Value → Option Addr → TS)) → Prop
  | nil : HOk X L [] [] []
  | cons {x : Str} {subs : List (Str × Bool)} {T : Env → SRes} {b₀ : Stmt} {suite : List Stmt} {np pos' : Pos} {hds : List ExceptHandler} {C : Addr} {l : List (List (Str × Bool) × (Env → SRes))} {l' : List (Value × (Addr → Value → Option Addr → TS))} (hg : Gl X x) (hdb : (x == ("__debug__" : Str)) = false) (gC : X.mg x = some (.ref C)) (hsub : ∀ c b, (c, b) ∈ subs → ∃ D, X.mg c = some (.ref D) ∧ PySem.W.exmOne X.K (.ref D) (.ref C) = some b)
      (hsu : ∀ (a : Addr) (pn : List (Addr × Obj)), SsOk (X.suite a pn) WF L (b₀ :: suite) T) (r : HOk X L hds l l') : HOk X L (.ExceptHandler (some (.Name x np)) none (b₀ :: suite) pos' :: hds) ((subs, T) :: l) ((.ref C, fun _ _ _ => tS (gd X) WF L T) :: l')
theorem HOk.hds {hds : List ExceptHandler} {l : List (List (Str × Bool) × (Env → SRes))} {l' : List (Value × (Addr → Value → Option Addr → TS))} (h : HOk X L hds l l') : HdsOk X hds l' := by
  induction h with
  | nil => exact .nil
  | cons hg hdb gC hsub hsu r ih => exact .cons ⟨hg, hdb, .inl gC⟩ (fun a oe cls d pn _ _ => (hsu a _).pss) ih
/-- the clauses' list exists -/
inductive HsOk (X : Cx) (L : List Nat) : List ExceptHandler → List (List (Str × Bool) × (Env → SRes)) → Prop
  | nil : HsOk X L [] []
  | cons {x : Str} {subs : List (Str × Bool)} {T : Env → SRes} {b₀ : Stmt} {suite : List Stmt} {np pos' : Pos} {hds : List ExceptHandler} {l : List (List (Str × Bool) × (Env → SRes))} (hsub : SubOk X.K X.mg x subs) (hsu : ∀ (a : Addr) (pn : List (Addr × Obj)), SsOk (X.suite a pn) WF L (b₀ :: suite) T) (r : HsOk X L hds l) (hg : Gl X x := by rfl) (hdb : (x == ("__debug__" : Str)) = false := by decide) :
      HsOk X L (.ExceptHandler (some (.Name x np)) none (b₀ :: suite) pos' :: hds) ((subs, T) :: l)
theorem HsOk.h {hds : List ExceptHandler} {l : List (List (Str × Bool) × (Env → SRes))} (h : HsOk X L hds l) : ∃ l', HOk X L hds l l' := by
  induction h with
  | nil => exact ⟨[], .nil⟩
  | cons hsub hsu r hg hdb ih =>
    obtain ⟨l', q⟩ := ih
    obtain ⟨C, gC, hC⟩ := hsub.ex
    exact ⟨_, .cons hg hdb gC hC hsu q⟩
theorem s_tryH {body : List Stmt} {h₀ : ExceptHandler} {hds : List ExceptHandler} {l : List (List (Str × Bool) × (Env → SRes))} {S : Env → SRes} (hs : X.stack = X.env :: X.outer) (hf : X.env.frame = some X.env.locals) (tk : Takes X W)
    (hb : ∀ (W : WX) (pn : List (Addr × Obj)) (xe : Value → Shared → Prop), Takes (X.tr pn xe) W → PassesOwn (model X.prog X.w) X.A X.env xe → SsOk (X.tr pn xe) W L body S) (hh : HsOk X L (h₀ :: hds) l) : SOk X W L (.Try body (h₀ :: hds) [] [] pos) (sTryH l S) := by
  obtain ⟨l', hq⟩ := hh.h
  clear hh
  refine ⟨PS.imp (ps_try_many (tb := fun W => tS (gd X) W L S) hs hf tk (fun W pn xe t p => (hb W pn xe t p).pss) hq.hds) fun Dn σ H h0 => ?_⟩
  obtain ⟨P, ρ, A, st, h⟩ := h0
  refine ⟨P, ρ, A, st, ?_⟩
  unfold sTryH at h
  cases hS : S ρ with
  | bad => simp only [hS] at h
  | nx ρ1 => simp only [hS] at h; exact h
  | rt d ρ1 => simp only [hS] at h; exact h
  | bk ρ1 => simp only [hS] at h; exact h
  | exc z ρ1 =>
    simp only [hS] at h
    intro cls dx σ1 P1 H1 A1 a xr
    obtain ⟨c, ns, ds, Cc, rfl, gc, rfl, xf⟩ := xr
    simp only at h
    clear hS
    revert h
    generalize h₀ :: hds = hd at hq
    intro h
    clear hb
    induction hq with
    | nil => simp only [hdGo] at h; exact h (.ref Cc) dx σ1 P1 H1 A1 a ⟨c, ns, ds, Cc, rfl, gc, rfl, xf⟩
    | @cons x0 subs T b₀ suite np pos0 hds C l l1 hg0 hdb gC hsub hsu r ih =>
      simp only [hdGo] at h
      cases hg : subGo subs c with
      | none => rw [hg] at h; exact h.elim
      | some b =>
        rw [hg] at h
        obtain ⟨D', gD, em⟩ := hsub c b (subGo_mem hg)
        have : D' = Cc := by
          have := gD.symm.trans gc
          cases this; rfl
        subst this
        refine ⟨b, em, fun hbt ad hn => ?_, fun hbf => ?_⟩
        · subst hbt
          simp only at h
          refine ⟨P1, ρ1, A1, a.st, ?_⟩
          cases hT : T ρ1 with
          | bad => rw [hT] at h; exact h.elim
          | exc y ρ2 => rw [hT] at h; exact h.elim
          | nx ρ2 => rw [hT] at h; exact fun σ' P' H' A' b3 => h _ _ _ _ (a.trans st.und b3)
          | bk ρ2 => rw [hT] at h; exact fun σ' P' H' A' b3 => h _ _ _ _ (a.trans st.und b3)
          | rt d ρ2 => rw [hT] at h; exact fun v σ' P' H' A' B b3 q1 q2 q3 => h v _ _ _ _ B (a.trans st.und b3) q1 q2 (a.newB st.und q3)
        · subst hbf
          simp only at h
          exact ih h
end
end RL

/-! RL: isinstance with a class of the text's own. -/
namespace RL
open PySem PySem.Spec PyProof.Rows L2
/-- instances of these classes, asked whether they are of h -/
structure IsObj (K : PySem.W.Frag) (mg : Str → Option Value) (h : Str) (tab : List (Str × Bool)) : Prop where
  ex : ∃ D, mg h = some (.ref D) ∧ ∀ c b, (c, b) ∈ tab → ∃ C, mg c = some (.ref C) ∧ Cls K C ∧ PySem.W.findIn K (.ref C) "__class__" = some (some (.builtin "object.__class__")) ∧
    PySem.W.specialIn K (.builtin "object.__class__") "__get__" = some (some (.builtin "getset_descriptor.__get__")) ∧ PySem.W.takesIn K (.builtin "object.__class__") = some true ∧ PySem.W.mroIn K C (.type "object") = some true ∧ PySem.W.kitOne K (.ref C) (.ref D) = some b
/-- exceptions of these classes, asked whether they are of the class u -/
structure IsExc (K : PySem.W.Frag) (mg : Str → Option Value) (u : Value) (tab : List (Str × Bool)) : Prop where
  ex : ∀ c b, (c, b) ∈ tab → ∃ C, mg c = some (.ref C) ∧ ExcC K C ∧ PySem.W.kitOne K (.ref C) u = some b
def fIsObj (tab : List (Str × Bool)) : D → Option D
  | .obj _ c _ _ => (subGo tab c).map .bl
  | _ => none
def fIsExc (tab : List (Str × Bool)) : D → Option D
  | .exn c ns _ => if ns = [] then (subGo tab c).map .bl else none
  | _ => none
section
variable {X : Cx} {W : WX} {e : Expr} {S : Env → Res D} {x : Str} {p p2 pos : Pos} {tab : List (Str × Bool)}
theorem Under.ext {P H : Hp} (u : Under P H) {a : Addr} {φ : Heap → Prop} (h : P a = some (.ext φ)) : H a = some (.ext φ) := by
  rcases u _ _ h with z | ⟨_, _, z, _⟩ | ⟨_, _, z, _⟩
  · exact z
  · cases z
  · cases z
theorem e_isObj (T : IsObj X.K X.mg x tab) (hm : X.mg "isinstance" = none) (he : BOk X W e S) (hg : Gl X "isinstance" := by rfl) (hg2 : Gl X x := by rfl) (hdb : (x == ("__debug__" : Str)) = false := by decide)
    (hs : starEach [e, .Name x p2] X.env = (false, eval e X.env) :: starEach [.Name x p2] X.env := by rfl) (hpl : (backTo pos (starEach [.Name x p2] X.env)).any (·.1) = false := by rfl) :
    EOk X W (.Call (.Name "isinstance" p) [e, .Name x p2] [] pos) (s1 (fIsObj tab) S) := by
  obtain ⟨Dc, gD, hT⟩ := T.ex
  exact ⟨PE.imp (pe_callB call_isi hg hm (by decide +kernel) (pa_cons he.pe (pa_cons (pe_glob (v := .ref Dc) hg2 gD rfl hdb) pa_nil) hs) (by decide) (by decide) hs hpl) fun σ H Q ⟨P, ρ, A, st, h⟩ => ⟨P, ρ, A, st, by
    unfold s1 at h
    cases hsS : S ρ with
    | bad => simp only [hsS, Res.bind] at h
    | exc x => simp only [hsS, Res.bind] at h; exact h
    | ok d =>
      simp only [hsS, Res.bind] at h
      intro v P1 H1 B e1 r o
      cases d with
      | obj ob c ns ds =>
        simp only [fIsObj] at h
        cases ht : subGo tab c with
        | none => simp only [ht, Option.map, opt] at h
        | some b =>
          simp only [ht, Option.map, opt] at h
          obtain ⟨C, gC, cl, ha, hn, htk, hm', hk⟩ := hT c b (subGo_mem ht)
          obtain ⟨a, C', dx, vs, B0, rfl, mg, hH, hl, rl, sub⟩ := obj_of e1.und r
          have : C' = C := by
            have := mg.symm.trans gC
            cases this; rfl
          subst this
          exact ⟨.ref a, .ref Dc, .ref C', .ref Dc, b, rfl, .own Dc, .base (.ins hH cl ha hn htk hm'), hk, h _ P1 H1 [] e1 (.bl b) Fresh.nil⟩
      | _ => simp [fIsObj, opt] at h⟩⟩
/-- isinstance of a caught exception -/
def rIsX (K : PySem.W.Frag) : List V → Hp → VK → Prop := fun xs H Q => ∃ (a C : Addr) (c : V) (cv : Value) (b : Bool), xs = [.ref a, c] ∧ H a = some (ExT (.ref C) none a) ∧ ExcC K C ∧ (∀ u, RelV c u → u = cv) ∧ PySem.W.kitOne K (.ref C) cv = some b ∧ Q (.bl b) H
theorem call_isX : CallR X (.builtin "isinstance") (rIsX X.K) := by
  intro pins s σ H xs us Q I r h
  obtain ⟨a, Cc, c, cv, b, rfl, hH, C, hcv, hk, q⟩ := h
  cases r with
  | cons rx rr =>
    cases rr with
    | cons rt rr =>
      cases rr
      cases rx
      have ec := hcv _ rt
      subst ec
      obtain ⟨⟨oe, vs, hget, hc, hd, hv⟩, _, _⟩ := I.hok a _ hH
      have J : PySem.W.InstAt s.heap a oe Cc none := by
        obtain ⟨oc, od, oda, osl⟩ := oe
        dsimp only at hc hd hv
        subst hc hd hv
        exact ⟨hget, rfl, rfl, trivial⟩
      exact PySem.W.kia_one (PySem.W.handS_kitx_exc C.hg C.hk C.hs C.hd C.ha C.hn C.ht C.hm) I.kIn J hk (fun z => nomatch z) fun tk => ⟨.bl b, H, I.kept (t' := tk) fun _ _ z => z, rfl, q⟩
theorem isExc_post {u : Value} {c : V} (T : IsExc X.K X.mg u tab) (hc : ∀ w, RelV c w → w = u) {P H P1 H1 : Hp} {ρ : Env} {Q : VK} {d : D} {v : V} {B : List Addr} (e1 : Ext P H P1 H1 []) (r : Rel (gd X) P1 H1 v d B) (h : match opt (fIsExc tab d) with
      | .ok d => Post (gd X) P H Q d
      | .exc x => PostX (gd X) P H W σ x
      | .bad => False) : rIsX X.K [v, c] H1 Q := by
  cases d with
  | exn cn ns ds =>
    simp only [fIsExc] at h
    by_cases hns : ns = []
    · rw [if_pos hns] at h
      cases ht : subGo tab cn with
      | none => simp only [ht, Option.map, opt] at h
      | some b =>
        simp only [ht, Option.map, opt] at h
        obtain ⟨C, gC, xc, hk⟩ := T.ex cn b (subGo_mem ht)
        cases r with
        | @exn a C' dx cn ns ds mg hP xf =>
          have : C' = C := by
            have := mg.symm.trans gC
            cases this; rfl
          subst this
          have hdx : dx = none := by
            rcases xf with ⟨_, _, z⟩ | ⟨z, _⟩
            · exact z
            · exact absurd hns z
          subst hdx
          exact ⟨a, C', c, u, b, rfl, e1.und.ext hP, xc, hc, hk, h _ P1 H1 [] e1 (.bl b) Fresh.nil⟩
    · rw [if_neg hns] at h; exact h.elim
  | _ => simp [fIsExc, opt] at h
theorem e_isExc (hmg : ∃ D, X.mg x = some (.ref D) ∧ IsExc X.K X.mg (.ref D) tab) (hm : X.mg "isinstance" = none) (he : BOk X W e S) (hg : Gl X "isinstance" := by rfl) (hg2 : Gl X x := by rfl) (hdb : (x == ("__debug__" : Str)) = false := by decide)
    (hs : starEach [e, .Name x p2] X.env = (false, eval e X.env) :: starEach [.Name x p2] X.env := by rfl) (hpl : (backTo pos (starEach [.Name x p2] X.env)).any (·.1) = false := by rfl) :
    EOk X W (.Call (.Name "isinstance" p) [e, .Name x p2] [] pos) (s1 (fIsExc tab) S) := by
  obtain ⟨Dc, gD, T⟩ := hmg
  exact ⟨PE.imp (pe_callB call_isX hg hm (by decide +kernel) (pa_cons he.pe (pa_cons (pe_glob (v := .ref Dc) hg2 gD rfl hdb) pa_nil) hs) (by decide) (by decide) hs hpl) fun σ H Q ⟨P, ρ, A, st, h⟩ => ⟨P, ρ, A, st, by
    unfold s1 at h
    cases hsS : S ρ with
    | bad => simp only [hsS, Res.bind] at h
    | exc x => simp only [hsS, Res.bind] at h; exact h
    | ok d =>
      simp only [hsS, Res.bind] at h
      intro v P1 H1 B e1 r o
      exact isExc_post (W := W) (ρ := ρ) (σ := σ) (c := .ref Dc) T (fun w z => z) e1 r h⟩⟩
theorem e_isExcTy (ty : String) (T : IsExc X.K X.mg (.type ty) tab) (hm : X.mg "isinstance" = none) (hm2 : X.mg x = none) (hv : bootBuiltins x = some (.type ty)) (he : BOk X W e S) (hg : Gl X "isinstance" := by rfl) (hg2 : Gl X x := by rfl) (hn : x ≠ "__name__" := by decide) (hdb : (x == ("__debug__" : Str)) = false := by decide)
    (hs : starEach [e, .Name x p2] X.env = (false, eval e X.env) :: starEach [.Name x p2] X.env := by rfl) (hpl : (backTo pos (starEach [.Name x p2] X.env)).any (·.1) = false := by rfl) :
    EOk X W (.Call (.Name "isinstance" p) [e, .Name x p2] [] pos) (s1 (fIsExc tab) S) :=
  ⟨PE.imp (pe_callB call_isX hg hm (by decide +kernel) (pa_cons he.pe (pa_cons (pe_bltn (v := .ty ty) hg2 hm2 hv rfl hn hdb) pa_nil) hs) (by decide) (by decide) hs hpl) fun σ H Q ⟨P, ρ, A, st, h⟩ => ⟨P, ρ, A, st, by
    unfold s1 at h
    cases hsS : S ρ with
    | bad => simp only [hsS, Res.bind] at h
    | exc x => simp only [hsS, Res.bind] at h; exact h
    | ok d =>
      simp only [hsS, Res.bind] at h
      intro v P1 H1 B e1 r o
      exact isExc_post (W := W) (ρ := ρ) (σ := σ) (c := .ty ty) T (fun w z => z) e1 r h⟩⟩
end
end RL

/-! RL: dicts. -/
namespace RL
open PySem PySem.Spec PyProof.Rows L2
/-! ### a key put -/
def putKs (k : Key) (ks : List Key) : List Key := match ixOf ks k with
  | some _ => ks
  | none => ks ++ [k]
def putVs {α : Type} (k : Key) (d : α) (ks : List Key) (ds : List α) : List α := match ixOf ks k with
  | some j => ds.set j d
  | none => ds ++ [d]
theorem ixOf_none {ks : List Key} {k : Key} : ixOf ks k = none ↔ k ∉ ks := by
  induction ks with
  | nil => simp [ixOf]
  | cons g ks ih =>
    simp only [ixOf, List.mem_cons, not_or]
    by_cases e : g = k
    · simp [e]
    · simp only [e, if_false, Option.map_eq_none_iff, ih]
      exact ⟨fun h => ⟨fun z => e z.symm, h⟩, fun h => h.2⟩
theorem ixOf_some {ks : List Key} {k : Key} {j : Nat} (h : ixOf ks k = some j) : j < ks.length ∧ ks[j]? = some k := by
  induction ks generalizing j with
  | nil => simp [ixOf] at h
  | cons g ks ih =>
    simp only [ixOf] at h
    by_cases e : g = k
    · simp [e] at h
      subst h
      simp [e]
    · simp only [e, if_false, Option.map_eq_some_iff] at h
      obtain ⟨m, h, rfl⟩ := h
      obtain ⟨h1, h2⟩ := ih h
      exact ⟨by simpa using h1, by simpa using h2⟩
theorem putKs_nodup {k : Key} {ks : List Key} (h : ks.Nodup) : (putKs k ks).Nodup := by
  unfold putKs
  cases e : ixOf ks k with
  | some j => exact h
  | none =>
    have := ixOf_none.mp e
    exact List.nodup_append.mpr ⟨h, by simp, fun a ha b hb z => by simp at hb; subst hb; subst z; exact this ha⟩
theorem putKs_len {k : Key} {ks : List Key} {α : Type} {d : α} {ds : List α} (h : ks.length = ds.length) : (putKs k ks).length = (putVs k d ks ds).length := by
  unfold putKs putVs
  cases e : ixOf ks k <;> simp [h]
theorem zip_any {k : Key} : ∀ {ks : List Key} {vs : List V}, ks.length = vs.length → ((ks.zip vs).any fun kv => decide (kv.1 = k)) = (ixOf ks k).isSome
  | [], _, _ => by simp [ixOf]
  | _ :: _, [], h => by simp at h
  | g :: ks, w :: vs, h => by
    rw [List.zip_cons_cons, List.any_cons, zip_any (by simpa using h)]
    simp only [ixOf]
    by_cases e : g = k
    · simp [e]
    · simp [e]
theorem zip_same {k : Key} {v : V} : ∀ (ks : List Key) (vs : List V), k ∉ ks → (ks.zip vs).map (fun kv => if kv.1 = k then (kv.1, v) else kv) = ks.zip vs
  | [], _, _ => rfl
  | _ :: _, [], _ => rfl
  | a :: ks, b :: vs, hn => by
    simp only [List.mem_cons, not_or] at hn
    rw [List.zip_cons_cons, List.map_cons, if_neg fun z => hn.1 z.symm, zip_same ks vs hn.2]
theorem zip_map {k : Key} {v : V} : ∀ {ks : List Key} {vs : List V} {j : Nat}, ks.Nodup → ks.length = vs.length → ixOf ks k = some j → (ks.zip vs).map (fun kv => if kv.1 = k then (kv.1, v) else kv) = ks.zip (vs.set j v)
  | [], _, _, _, _, h => by simp [ixOf] at h
  | _ :: _, [], _, _, h, _ => by simp at h
  | g :: ks, w :: vs, j, nd, hl, h => by
    obtain ⟨n1, n2⟩ := List.nodup_cons.mp nd
    simp only [ixOf] at h
    by_cases e : g = k
    · simp only [e, if_true, Option.some.injEq] at h
      subst h
      subst e
      rw [List.zip_cons_cons, List.map_cons, if_pos rfl, zip_same ks vs n1]
      rfl
    · simp only [e, if_false, Option.map_eq_some_iff] at h
      obtain ⟨m, h, rfl⟩ := h
      rw [List.zip_cons_cons, List.map_cons, if_neg e, zip_map n2 (by simpa using hl) h]
      rfl
theorem putK_zip {k : Key} {v : V} {ks : List Key} {vs : List V} (nd : ks.Nodup) (hl : ks.length = vs.length) : putK (ks.zip vs) k v = (putKs k ks).zip (putVs k v ks vs) := by
  unfold putK putKs putVs
  rw [zip_any hl]
  cases h : ixOf ks k with
  | some j => simp only [Option.isSome_some, if_true]; exact zip_map nd hl h
  | none =>
    simp only [Option.isSome_none, Bool.false_eq_true, if_false]
    rw [List.zip_append hl]
    rfl
/-- the values, one put -/
theorem RelL.putV {G : Gd} {P H : Hp} {k : Key} {v : V} {d : D} {Bv : List Addr} (r : Rel G P H v d Bv) {ks : List Key} {vs : List V} {ds : List D} {B : List Addr} (t : RelL G P H vs ds B) (hl : ks.length = vs.length) :
    ∃ B1, RelL G P H (putVs k v ks vs) (putVs k d ks ds) B1 ∧ ∃ R, B1.Perm (Bv ++ R) ∧ R.Sublist B := by
  unfold putVs
  cases e : ixOf ks k with
  | none => exact ⟨B ++ Bv, t.snoc r, B, List.perm_append_comm, List.Sublist.refl _⟩
  | some j =>
    simp only
    obtain ⟨h1, h2⟩ := ixOf_some e
    have hj : j < ds.length := by rw [← t.length, ← hl]; exact h1
    clear e h1 h2 hl
    induction t using RelL.rec (motive_1 := fun _ _ _ _ => True) generalizing j with
    | nil => simp at hj
    | @cons v0 d0 A0 vs ds B0 r0 t _ ih =>
      cases j with
      | zero => exact ⟨Bv ++ B0, .cons r t, B0, .refl _, List.sublist_append_right _ _⟩
      | succ j =>
        obtain ⟨B1, q, R, p, s⟩ := ih j (by simpa using hj)
        exact ⟨A0 ++ B1, .cons r0 q, A0 ++ R, (p.append_left A0).trans (List.perm_append_comm_assoc ..), List.Sublist.append_left s A0⟩
    | _ => trivial
section
variable {X : Cx} {W : WX} {L : List Nat} {e a b o : Expr} {pos apos cpos : Pos} {Sa Sb S : Env → Res D} {Pl : Env → Res Plc}
/-! ### d[k] = v -/
def putD (k : D) (d : D) : D → Option D
  | .dct true ks ds => (keyOf k).bind fun k => if ks.length < sizeLine ∧ ks.Nodup then some (.dct true (putKs k ks) (putVs k d ks ds)) else none
  | _ => none
def sPutD (fz : Bool) (Pl : Env → Res Plc) (Sk Se : Env → Res D) : Env → SRes := fun ρ => match Se ρ with
  | .ok d => (match Pl ρ with
    | .ok p => (match Sk ρ with
      | .ok k => (match putD k (if fz then d.frz else d) p.at_ with
        | some d' => .nx (p.set d')
        | none => .bad)
      | .exc x => .exc x ρ
      | .bad => .bad)
    | .exc x => .exc x ρ
    | .bad => .bad)
  | .exc x => .exc x ρ
  | .bad => .bad
theorem key_rel {P H : Hp} {v : V} {d : D} {B : List Addr} {k : Key} (r : Rel (gd X) P H v d B) (h : keyOf d = some k) : v = kV k := by
  cases r <;> simp [keyOf] at h <;> subst h <;> rfl
theorem s_putD (fz : Bool) {i : Expr} {pos' : Pos} {Sk Se : Env → Res D} (hu : X.A.units + 1 < cLine) (ho : PlOk X W o Pl) (hi : BOk X W i Sk) (he : EOk X W e Se) (hs : swapsWith e (some (.Subscript o i pos')) pos.line X.env = pure false := by rfl) :
    SOk X W L (.Assign [.Subscript o i pos'] e pos) (sPutD fz Pl Sk Se) := ⟨PS.imp (ps_dput hu ho.pe hi.pe he.pe hs) fun D σ H ⟨P, ρ, A, st, h⟩ => ⟨P, ρ, A, st, by
  unfold sPutD at h
  cases hse : Se ρ with
  | bad => simp only [hse] at h
  | exc x => simp only [hse] at h; exact PostX.stmt st h
  | ok d =>
    simp only [hse] at h
    intro v P1 H1 B e1 r fr
    obtain ⟨P2, B2, e2, sm, r2, f2, sub2⟩ := fz_of st.und e1 r fr fz
    refine ⟨P2, ρ, A, st.ext e2, ?_⟩
    cases hp : Pl ρ with
    | bad => simp only [hp] at h
    | exc x => simp only [hp] at h; exact PostX.ext (PostX.stmt st h) st.und e2
    | ok p =>
      simp only [hp] at h
      intro u P3 H3 e3 F
      have e13 := e2.trans st.und e3
      refine ⟨P3, ρ, A, st.ext e13, ?_⟩
      cases hk : Sk ρ with
      | bad => simp only [hk] at h
      | exc x => simp only [hk] at h; exact PostX.ext (PostX.stmt st h) st.und e13
      | ok dk =>
        simp only [hk] at h
        intro y P4 H4 Bk e4 rk ok
        have e14 := e13.trans st.und e4
        have F4 := F.ext (st.ext e13) e4
        cases hz : putD dk (if fz then d.frz else d) p.at_ with
        | none => simp only [hz] at h
        | some d' =>
          simp only [hz] at h
          obtain ⟨B5, R, rp, q, w⟩ := F4
          cases hd : p.at_ with
          | dct ob ks ds =>
            rw [hd] at hz rp
            cases ob with
            | false => simp [putD] at hz
            | true =>
              simp only [putD] at hz
              cases hkk : keyOf dk with
              | none => rw [hkk] at hz; cases hz
              | some k =>
                rw [hkk] at hz
                simp only [Option.bind_some] at hz
                split at hz
                · rename_i hc
                  cases hz
                  cases rp with
                  | @dctO a ks vs ds A0 hH hl rl =>
                    have st4 := st.ext e14
                    have r4 := (r2.ext e3 fun b hb => (f2.2 b hb).2).ext e4 (e3.own r2.at fun b hb => (f2.2 b hb).2).2
                    have off4 := (e4.own (r2.ext e3 fun b hb => (f2.2 b hb).2).at (e3.own r2.at fun b hb => (f2.2 b hb).2).2).2
                    obtain ⟨B1, q1, R1, p1, s1⟩ := RelL.putV (k := k) r4 rl hl
                    have hA : ∀ b ∈ a :: A0, b ∈ A := fun b hb => q.symm.subset (List.mem_append_left _ hb)
                    have B2A : ∀ b ∈ B2, b ∉ A := fun b hb z => by
                      obtain ⟨ob, hob⟩ := st.env.at b z
                      rw [(f2.2 b hb).1] at hob; cases hob
                    obtain ⟨n1, n2, n3⟩ := List.nodup_append.mp (q.nodup_iff.mp st.nd)
                    obtain ⟨m1, m2⟩ := List.nodup_cons.mp n1
                    have mem1 : ∀ b ∈ B1, b ∈ B2 ∨ b ∈ A0 := fun b hb => (List.mem_append.mp (p1.subset hb)).imp id fun z => s1.subset z
                    have na1 : a ∉ B1 := fun z => by
                      rcases mem1 a z with y | y
                      · exact B2A a y (hA a List.mem_cons_self)
                      · exact m1 y
                    have nd1 : B1.Nodup := p1.nodup_iff.mpr (List.nodup_append.mpr ⟨f2.1, m2.sublist s1, fun x hx y hy z => B2A x hx (z ▸ hA y (List.mem_cons_of_mem _ (s1.subset hy)))⟩)
                    have nd2 : (B1 ++ R).Nodup := List.nodup_append.mpr ⟨nd1, n2, fun x hx y hy z => by
                      rcases mem1 x hx with k | k
                      · exact B2A x k (z ▸ q.symm.subset (List.mem_append_right _ hy))
                      · exact n3 x (List.mem_cons_of_mem _ k) y hy z⟩
                    have fr1 : ∀ b ∈ B1, P4 b = none ∧ (H b = none ∨ b ∈ A) := fun b hb => by
                      rcases mem1 b hb with k | k
                      · exact ⟨off4 b k, .inl (f2.2 b k).1⟩
                      · exact ⟨st4.off b (hA b (List.mem_cons_of_mem _ k)), .inr (hA b (List.mem_cons_of_mem _ k))⟩
                    have rr : Rel (gd X) P4 (upd H4 a (.dK (putK (ks.zip vs) k v))) (.ref a) (.dct true (putKs k ks) (putVs k (if fz then d.frz else d) ks ds)) (a :: B1) := by
                      rw [putK_zip hc.2 hl]
                      exact .dctO upd_same (putKs_len hl) (q1.mono (Same.refl _) fun b hb => upd_ne fun z => na1 (z ▸ hb))
                    obtain ⟨A', af⟩ := Foc.done (L := L) (p := p) (B0 := A0) st e14 q w rr nd2 na1 fr1
                    refine ⟨a, _, rfl, ?_, h σ _ _ A' af⟩
                    rw [key_rel rk hkk]
                    exact .inl ⟨_, k, hH, rfl, by rw [List.length_zip]; have := hc.1; omega, rfl⟩
                · cases hz
          | _ => rw [hd] at hz; simp [putD] at hz⟩⟩
/-! ### dict(pairs) -/
def mkD : List D → List Key → List D → Option D
  | [], ks, ds => some (.dct true ks ds)
  | .tup [k, d] :: r, ks, ds => (keyOf k).bind fun k => mkD r (putKs k ks) (putVs k d ks ds)
  | _, _, _ => none
def fDict : D → Option D
  | .lst _ ps => mkD ps [] []
  | _ => none
/-- the pairs as the rule wants them, and what comes of them -/
theorem mk_rel {P H : Hp} (un : Under P H) : ∀ {xs : List V} {ps : List D} {A : List Addr} {ks : List Key} {vs : List V} {ds : List D} {B : List Addr} {z : D}, RelL (gd X) P H xs ps A → RelL (gd X) P H vs ds B → ks.Nodup → ks.length = vs.length → mkD ps ks ds = some z →
    ∃ (as : List Addr) (kvs : List (Key × V)) (ks' : List Key) (vs' : List V) (ds' : List D) (C : List Addr), xs = as.map V.ref ∧ Paired (fun p (kv : Key × V) => SqT X.K H p [kV kv.1, kv.2]) as kvs ∧ mergeK (ks.zip vs) kvs = ks'.zip vs' ∧ ks'.length = vs'.length ∧ z = .dct true ks' ds' ∧ RelL (gd X) P H vs' ds' C ∧ (∀ b ∈ C, b ∈ A ∨ b ∈ B) ∧ ((A ++ B).Nodup → C.Nodup)
  | _, _, _, ks, vs, ds, B, z, .nil, t, nd, hl, h => by
    simp only [mkD, Option.some.injEq] at h
    subst h
    exact ⟨[], [], ks, vs, ds, B, rfl, .nil, rfl, hl, rfl, t, fun b hb => .inr hb, fun n => n⟩
  | _, _, _, ks, vs, ds, B, z, .cons (v := x) (d := p) (A := A1) (vs := xs) (ds := ps) (B := B1) r r', t, nd, hl, h => by
    cases r with
    | @tup a ws ds0 A0 hP rp =>
      cases rp with
      | nil => simp [mkD] at h
      | @cons wk dk Ak ws1 ds1 B2 rk rp1 =>
        cases rp1 with
        | nil => simp [mkD] at h
        | @cons wv dv Av ws2 ds2 B3 rv rp2 =>
          cases rp2 with
          | cons _ _ => simp [mkD] at h
          | nil =>
            simp only [mkD] at h
            cases hk : keyOf dk with
            | none => rw [hk] at h; cases h
            | some k =>
              rw [hk] at h
              simp only [Option.bind_some] at h
              obtain ⟨Bq, q1, R1, p1, s1⟩ := RelL.putV (k := k) rv t hl
              obtain ⟨as, kvs, ks', vs', ds', C, h1, h2, h3, h4, h5, h6, h7, h8⟩ := mk_rel un r' q1 (putKs_nodup nd) (putKs_len hl) h
              have ek := key_rel rk hk
              subst ek
              refine ⟨a :: as, (k, wv) :: kvs, ks', vs', ds', C, by rw [h1]; rfl, .cons (un.seqT hP) h2, ?_, h4, h5, h6, ?_, ?_⟩
              · show mergeK (putK (ks.zip vs) k wv) kvs = _
                rw [putK_zip nd hl]
                exact h3
              · intro b hb
                rcases h7 b hb with z | z
                · exact .inl (List.mem_append_right _ z)
                · rcases List.mem_append.mp (p1.subset z) with z | z
                  · exact .inl (List.mem_append_left _ (List.mem_append_right _ (by simpa using z)))
                  · exact .inr (s1.subset z)
              · intro nn
                obtain ⟨m1, m2, m3⟩ := List.nodup_append.mp nn
                obtain ⟨m4, m5, m6⟩ := List.nodup_append.mp m1
                rw [List.append_nil] at m4 m6
                obtain ⟨_, m7, _⟩ := List.nodup_append.mp m4
                refine h8 (List.nodup_append.mpr ⟨m5, p1.nodup_iff.mpr (List.nodup_append.mpr ⟨m7, m2.sublist s1, fun x hx y hy => m3 x (by simp [hx]) y (s1.subset hy)⟩), fun x hx y hy => ?_⟩)
                rcases List.mem_append.mp (p1.subset hy) with z | z
                · exact fun w => m6 y (List.mem_append_right _ z) x hx w.symm
                · exact m3 x (List.mem_append_right _ hx) y (s1.subset z)
    | _ => simp [mkD] at h
theorem e_dict {p : Pos} (hc : X.calm = true) (hm : X.mg "dict" = none) (he : EOk X W e S) (hg : Gl X "dict" := by rfl) (hs : starEach [e] X.env = (false, eval e X.env) :: starEach [] X.env := by rfl) (hpl : (backTo pos (starEach [] X.env)).any (·.1) = false := by rfl) :
    EOk X W (.Call (.Name "dict" p) [e] [] pos) (s1 fDict S) := ⟨PE.imp (pe_callTy (call_dictP hc) hg hm (by decide +kernel) (pa_cons he.pe pa_nil hs) (by decide) (by decide) hs hpl) fun σ H Q ⟨P, ρ, A, st, h⟩ => ⟨P, ρ, A, st, by
  unfold s1 at h
  cases hsS : S ρ with
  | bad => simp only [hsS, Res.bind] at h
  | exc x => simp only [hsS, Res.bind] at h; exact h
  | ok d =>
    simp only [hsS, Res.bind] at h
    intro v P1 H1 B e1 r fr
    cases hf : fDict d with
    | none => simp only [hf, opt] at h
    | some z =>
      simp only [hf, opt] at h
      have go : ∀ {a : Addr} {xs : List V} {ps : List D} {B0 : List Addr}, v = .ref a → H1 a = some (.lst xs) → RelL (gd X) P1 H1 xs ps B0 → (∀ b ∈ B0, b ∈ B) → B0.Nodup → mkD ps [] [] = some z →
          ∃ (a : Addr) (ps : List Addr) (kvs : List (Key × V)), [v] = [V.ref a] ∧ SqL X.K H1 a (ps.map V.ref) ∧ Paired (fun p (kv : Key × V) => SqT X.K H1 p [kV kv.1, kv.2]) ps kvs ∧ ∀ p, H1 p = none → Q (.ref p) (upd H1 p (.dK (mergeK [] kvs))) := by
        intro a xs ps B0 ev hH rl sub nd hmk
        obtain ⟨as, kvs, ks', vs', ds', C, h1, h2, h3, h4, h5, h6, h7, h8⟩ := mk_rel e1.und rl (ks := []) (vs := []) .nil List.nodup_nil rfl hmk
        rw [List.append_nil] at h8
        subst h1
        subst h5
        refine ⟨a, as, kvs, by rw [ev], SqL.of hH, h2, fun p hp => ?_⟩
        have h3' : mergeK [] kvs = ks'.zip vs' := h3
        rw [h3']
        have o1 : ∀ b ∈ C, b ∈ B := fun b hb => sub b ((h7 b hb).resolve_right (by simp))
        have nC : C.Nodup := h8 nd
        have np : p ∉ C := fun z => by
          obtain ⟨w, q⟩ := h6.at p z
          rw [hp] at q; cases q
        have e2 := ext_own (o := .dK (ks'.zip vs')) e1.und hp
        have off : ∀ b ∈ C, P1 b = none := fun b hb => (fr.2 b (o1 b hb)).2
        refine h _ _ _ (p :: C) (e1.trans st.und e2) (.dctO upd_same h4 (h6.ext e2 off)) ⟨List.nodup_cons.mpr ⟨np, nC⟩, fun b hb => ?_⟩
        rcases List.mem_cons.mp hb with rfl | hb
        · exact ⟨e1.free st.und hp, e1.und.free hp⟩
        · exact fr.2 b (o1 b hb)
      cases r with
      | @lstF a xs ps hP rl => exact go rfl (e1.und.lst hP) rl (fun b hb => by simp at hb) List.nodup_nil (by simpa [fDict] using hf)
      | @lstO a xs ps B0 hH rl => exact go rfl hH rl (fun b hb => List.mem_cons_of_mem _ hb) (List.nodup_cons.mp fr.1).2 (by simpa [fDict] using hf)
      | _ => simp [fDict] at hf⟩⟩
end
end RL

/-! RL: membership; dicts walked and asked. -/
namespace RL
open PySem PySem.Spec PyProof.Rows L2
section
variable {X : Cx} {W : WX} {L : List Nat} {e a b o : Expr} {pos apos cpos : Pos} {Sa Sb S : Env → Res D} {Pl : Env → Res Plc} {k : Nat}
/-! ### in -/
def fIn : D → D → Option Bool
  | .str x, .str z => if x.cps.size = 1 then some (decide (x.cps.getD 0 0 ∈ z.cps.toList)) else none
  | d, .lst o ds => match d.flat?, ds.mapM D.flat? with
    | some v, some vs => some (inV v vs)
    | _, _ => if d.fit = true ∧ (D.lst o ds).fit = true then some (ds.any fun z => PyData.eqv z.py d.py) else none
  | d, .tup ds => match d.flat?, ds.mapM D.flat? with
    | some v, some vs => some (inV v vs)
    | _, _ => none
  | d, .dct _ ks _ => (keyOf d).map fun k => (ixOf ks k).isSome
  | _, _ => none
def oIn : D → D → Option D := fun x y => (fIn x y).map .bl
def oNotIn : D → D → Option D := fun x y => (fIn x y).map fun b => .bl (!b)
theorem flat_rel {G : Gd} {P H : Hp} {v w : V} {d : D} {B : List Addr} (r : Rel G P H v d B) (h : d.flat? = some w) : v = w ∧ flatV v = true := by
  cases r <;> simp only [D.flat?, Option.some.injEq, reduceCtorEq] at h <;> subst h <;> exact ⟨rfl, rfl⟩
theorem flats_rel {G : Gd} {P H : Hp} : ∀ {vs ws : List V} {ds : List D} {B : List Addr}, RelL G P H vs ds B → ds.mapM D.flat? = some ws → vs = ws ∧ vs.all flatV = true
  | _, ws, _, _, .nil, h => by
    have h' : ws = [] := by simpa using h.symm
    subst h'
    exact ⟨rfl, rfl⟩
  | _, ws, _, _, .cons (d := d) (ds := ds) r t, h => by
    rw [List.mapM_cons] at h
    cases hd : d.flat? with
    | none => rw [hd] at h; cases h
    | some u =>
      rw [hd] at h
      cases ht : ds.mapM D.flat? with
      | none => rw [ht] at h; cases h
      | some us =>
        rw [ht] at h
        obtain rfl : u :: us = ws := Option.some.inj h
        obtain ⟨h1, h2⟩ := flat_rel r hd
        obtain ⟨h3, h4⟩ := flats_rel t ht
        subst h1 h3
        exact ⟨rfl, by simp [h2, h4]⟩
theorem op_or {op : Operator} : True := trivial
theorem OpR.or' {X : Cx} {f : Value → Value → Sem Value} {r r' : R2} (h : OpR X f r) (h' : OpR X f r') : OpR X f fun x y H Q => r x y H Q ∨ r' x y H Q := by
  intro pins s σ H x y v u Q I rx ry q
  rcases q with q | q
  · exact h pins s σ H x y v u Q I rx ry q
  · exact h' pins s σ H x y v u Q I rx ry q
theorem OpR.imp {X : Cx} {f : Value → Value → Sem Value} {r r' : R2} (h : OpR X f r) (i : ∀ x y H Q, r' x y H Q → r x y H Q) : OpR X f r' := fun pins s σ H x y v u Q I rx ry q => h pins s σ H x y v u Q I rx ry (i _ _ _ _ q)
def rInDict (neg : Bool) : R2 := fun x y H Q => ∃ a o, y = .ref a ∧ DGet H a x o ∧ Q (.bl (if neg then !o.isSome else o.isSome)) H
theorem op_inDict (hu : X.A.units + 1 < cLine) : OpR X (compareOp .In) (rInDict false) := by
  intro pins s σ H x y v u Q I rx ry h
  obtain ⟨a, o, rfl, g, q⟩ := h
  cases ry
  exact d_in hu I g rx fun s' I' => ⟨.bl o.isSome, H, I', rfl, q⟩
theorem op_notInDict (hu : X.A.units + 1 < cLine) : OpR X (compareOp .NotIn) (rInDict true) := by
  intro pins s σ H x y v u Q I rx ry h
  obtain ⟨a, o, rfl, g, q⟩ := h
  cases ry
  exact d_notIn hu I g rx fun s' I' => ⟨.bl (!o.isSome), H, I', rfl, q⟩
theorem one_sign {x : Str} (h : x.cps.size = 1) : x = ⟨#[x.cps.getD 0 0]⟩ := by
  obtain ⟨⟨l⟩⟩ := x
  cases l with
  | nil => simp at h
  | cons c l =>
    cases l with
    | nil => rfl
    | cons _ _ => simp at h
/-- membership's four ways -/
theorem in_ways (neg : Bool) {x y : V} {H : Hp} {Q : VK} {f : D → D → Option D} (hf : ∀ x y, f x y = (fIn x y).map fun b => .bl (if neg then !b else b)) (h : rD (gd X) f x y H Q) :
    (∃ (c : Nat) (z : Str), x = .str ⟨#[c]⟩ ∧ y = .str z ∧ Q (.bl (if neg then !decide (c ∈ z.cps.toList) else decide (c ∈ z.cps.toList))) H) ∨ rIn X.K neg x y H Q ∨ rInDict neg x y H Q ∨
      ∃ d ds, Dp X.K H x d ∧ Dp X.K H y (.list ds) ∧ SeqAt.shaped d = true ∧ SeqAt.shaped (.list ds) = true ∧ Q (.bl (if neg then !(ds.any fun z => PyData.eqv z d) else ds.any fun z => PyData.eqv z d)) H := by
  obtain ⟨P, dx, dy, Bx, By, un, r1, r2, o1, o2, h⟩ := h
  rw [hf] at h
  cases hb : fIn dx dy with
  | none => rw [hb] at h; exact h.elim
  | some b =>
    rw [hb] at h
    have q : Q (.bl (if neg then !b else b)) H := post_val un h (.bl _)
    have seq : ∀ {vs : List V} {ds : List D} {B : List Addr} {w : V} {ws : List V} {a : Addr}, y = .ref a → (SqL X.K H a vs ∨ SqT X.K H a vs) → RelL (gd X) P H vs ds B → dx.flat? = some w → ds.mapM D.flat? = some ws → b = inV w ws → rIn X.K neg x y H Q := by
      intro vs ds B w ws a ey hs rl hw hws eb
      obtain ⟨h1, h2⟩ := flat_rel r1 hw
      obtain ⟨h3, h4⟩ := flats_rel rl hws
      subst h1 h3 eb
      exact ⟨a, vs, ey, hs, h2, h4, q⟩
    cases dy with
    | str z =>
      cases r2
      cases dx with
      | str x' =>
        cases r1
        simp only [fIn] at hb
        split at hb
        · rename_i c
          cases hb
          exact .inl ⟨_, z, congrArg V.str (one_sign c), rfl, q⟩
        · cases hb
      | _ => simp [fIn] at hb
    | lst ob ds =>
      have hb' : (match dx.flat?, ds.mapM D.flat? with
        | some v, some vs => some (inV v vs)
        | _, _ => if dx.fit = true ∧ (D.lst ob ds).fit = true then some (ds.any fun z => PyData.eqv z.py dx.py) else none) = some b := by
        cases dx <;> exact hb
      obtain ⟨a, vs, B0, rfl, hq, rl⟩ : ∃ a vs B0, y = .ref a ∧ SqL X.K H a vs ∧ RelL (gd X) P H vs ds B0 := by
        cases r2 with
        | lstF hP rl => exact ⟨_, _, _, rfl, SqL.of (un.lst hP), rl⟩
        | lstO hH rl => exact ⟨_, _, _, rfl, SqL.of hH, rl⟩
      have deep : (if dx.fit = true ∧ (D.lst ob ds).fit = true then some (ds.any fun z => PyData.eqv z.py dx.py) else none) = some b → ∃ d es, Dp X.K H x d ∧ Dp X.K H (.ref a) (.list es) ∧ SeqAt.shaped d = true ∧ SeqAt.shaped (.list es) = true ∧ Q (.bl (if neg then !(es.any fun z => PyData.eqv z d) else es.any fun z => PyData.eqv z d)) H := by
        intro hd
        split at hd
        · rename_i c
          cases hd
          have r2' := r2.dp un c.2
          rw [D.py] at r2'
          have s2 := fit_ok c.2
          rw [D.py] at s2
          refine ⟨dx.py, pyL ds, r1.dp un c.1, r2', fit_ok c.1, s2, ?_⟩
          have e : (pyL ds).any (fun z => PyData.eqv z dx.py) = ds.any fun z => PyData.eqv z.py dx.py := by
            rw [pyL_eq, List.any_map]
            rfl
          rw [e]
          exact q
        · cases hd
      cases hw : dx.flat? with
      | none => rw [hw] at hb'; exact .inr (.inr (.inr (deep hb')))
      | some w =>
        cases hws : ds.mapM D.flat? with
        | none => rw [hw, hws] at hb'; exact .inr (.inr (.inr (deep hb')))
        | some ws =>
          rw [hw, hws] at hb'
          exact .inr (.inl (seq rfl (.inl hq) rl hw hws (Option.some.inj hb').symm))
    | tup ds =>
      have hb' : (match dx.flat?, ds.mapM D.flat? with
        | some v, some vs => some (inV v vs)
        | _, _ => none) = some b := by
        cases dx <;> exact hb
      cases r2 with
      | tup hP rl =>
        cases hw : dx.flat? with
        | none => rw [hw] at hb'; cases hb'
        | some w =>
          cases hws : ds.mapM D.flat? with
          | none => rw [hw, hws] at hb'; cases hb'
          | some ws =>
            rw [hw, hws] at hb'
            exact .inr (.inl (seq rfl (.inr (un.seqT hP)) rl hw hws (Option.some.inj hb').symm))
    | dct ob ks ds =>
      have hb' : ((keyOf dx).map fun k => (ixOf ks k).isSome) = some b := by cases dx <;> exact hb
      cases hk : keyOf dx with
      | none => rw [hk] at hb'; cases hb'
      | some k =>
        rw [hk] at hb'
        obtain ⟨d, vs, B, rfl, hdk, hl, rl, hB⟩ := dget_of un r2
        have hval : (valV (ks.zip vs) k).isSome = b := by
          rw [← Option.some.inj hb']
          show (valV (ks.zip vs) k).isSome = (ixOf ks k).isSome
          rw [← zip_any hl, valV_any]
        refine .inr (.inr (.inl ⟨d, valV (ks.zip vs) k, rfl, .inl ⟨_, k, hdk, key_rel r1 hk, rfl⟩, ?_⟩))
        rw [hval]
        exact q
    | _ => cases dx <;> simp [fIn] at hb
theorem o_in (hr : Room k X.A) : OpR X (compareOp .In) (rD (gd X) oIn) :=
  OpR.imp (OpR.or' op_in_sign (OpR.or' op_in_seq (OpR.or' (op_inDict (hu_of hr)) (op_inD (by have := hr.un; omega))))) fun x y H Q h => by
    have := in_ways false (f := oIn) (fun _ _ => rfl) h
    simpa only [Bool.false_eq_true, if_false, rInD] using this
theorem o_notin (hr : Room k X.A) : OpR X (compareOp .NotIn) (rD (gd X) oNotIn) :=
  OpR.imp (OpR.or' op_notIn_sign (OpR.or' op_notIn_seq (OpR.or' (op_notInDict (hu_of hr)) (op_notInD (by have := hr.un; omega))))) fun x y H Q h => by
    have := in_ways true (f := oNotIn) (fun _ _ => rfl) h
    simpa only [if_true, rNotInD] using this
/-! ### what is walked of a dict -/
def keyD : Key → D
  | .inl i => .int i
  | .inr x => .str x
theorem keyD_rel {G : Gd} {P H : Hp} (k : Key) : Rel G P H (kV k) (keyD k) [] := by
  cases k with
  | inl i => exact .int i
  | inr x => exact .str x
def valsD : D → Option (List D)
  | .dct _ _ ds => if cleanL ds = true then some ds else none
  | _ => none
def keysD : D → Option (List D)
  | .dct _ ks ds => if cleanL ds = true then some (ks.map keyD) else none
  | _ => none
def itemsL : List Key → List D → List D
  | k :: ks, d :: ds => .tup [keyD k, d] :: itemsL ks ds
  | _, _ => []
def itemsD : D → Option (List D)
  | .dct _ ks ds => if cleanL ds = true ∧ ks.length = ds.length then some (itemsL ks ds) else none
  | _ => none
theorem itemsL_len : ∀ {ks : List Key} {ds : List D}, ks.length = ds.length → (itemsL ks ds).length = ds.length
  | [], [], _ => rfl
  | [], _ :: _, h => by simp at h
  | _ :: _, [], h => by simp at h
  | k :: ks, d :: ds, h => by simp only [itemsL, List.length_cons, itemsL_len (show ks.length = ds.length by simpa using h)]
theorem itemsL_get : ∀ {ks : List Key} {ds : List D} {i : Nat} {k : Key} {d : D}, ks[i]? = some k → ds[i]? = some d → (itemsL ks ds)[i]? = some (.tup [keyD k, d])
  | [], _, _, _, _, h, _ => by simp at h
  | _ :: _, [], _, _, _, _, h => by simp at h
  | k :: ks, d :: ds, 0, _, _, h, h2 => by simp at h h2; subst h h2; rfl
  | k :: ks, d :: ds, i + 1, _, _, h, h2 => by
    simp only [itemsL, List.getElem?_cons_succ]
    exact itemsL_get (by simpa using h) (by simpa using h2)
/-- a dict that stays, locked -/
def StayD (G : Gd) (P H : Hp) (a : Addr) (o : Obj) (ks : List Key) (vs : List V) (ds : List D) : Prop := P a = some (.dK (ks.zip vs)) ∧ ks.length = vs.length ∧ RelL G P H vs ds [] ∧ H a = some (.frz o (.dK (ks.zip vs)))
theorem StayD.ext {G : Gd} {P H P' H' : Hp} {A : List Addr} {a : Addr} {o : Obj} {ks : List Key} {vs : List V} {ds : List D} (e : Ext P H P' H' A) (h : StayD G P H a o ks vs ds) : StayD G P' H' a o ks vs ds :=
  ⟨e.same _ _ h.1, h.2.1, h.2.2.1.mono e.same (by simp), e.lck _ _ _ h.2.2.2⟩
theorem zip_get {ks : List Key} {vs : List V} {i : Nat} {k : Key} {v : V} (h : (ks.zip vs)[i]? = some (k, v)) : ks[i]? = some k ∧ vs[i]? = some v := List.getElem?_zip_eq_some.mp h
theorem it_vals {G : Gd} {a : Addr} {ob : Obj} {ks : List Key} {vs : List V} {ds : List D} : ItOk G false (Itd a ob (ks.zip vs)) ds fun P H => StayD G P H a ob ks vs ds where
  stay := fun P H P' H' A _ _ e h => h.ext e
  go := fun i P H u h hi => by
    obtain ⟨v, d, h1, h2, h3⟩ := h.2.2.1.at? hi
    have hl : (ks.zip vs).length = ds.length := by rw [List.length_zip, h.2.1, Nat.min_self, h.2.2.1.length]
    refine ⟨⟨h.2.2.2, by omega⟩, fun x H' hy => ?_⟩
    obtain ⟨e, k, y⟩ := hy
    subst e
    have q := (zip_get y).2
    rw [h1] at q
    cases q
    exact ⟨P, d, Ext.refl u, h2, h3⟩
  stop := fun i P H u h hi => ⟨h.2.2.2, by rw [List.length_zip, h.2.1, Nat.min_self, h.2.2.1.length]; exact hi⟩
theorem it_keys {G : Gd} {a : Addr} {ob : Obj} {ks : List Key} {vs : List V} {ds : List D} : ItOk G false (Itk a ob (ks.zip vs)) (ks.map keyD) fun P H => StayD G P H a ob ks vs ds where
  stay := fun P H P' H' A _ _ e h => h.ext e
  go := fun i P H u h hi => by
    rw [List.length_map] at hi
    have hl : (ks.zip vs).length = ks.length := by rw [List.length_zip, h.2.1, Nat.min_self]
    refine ⟨⟨h.2.2.2, by omega⟩, fun x H' hy => ?_⟩
    obtain ⟨e, k, v, y, ex⟩ := hy
    subst e ex
    refine ⟨P, keyD k, Ext.refl u, ?_, keyD_rel k⟩
    rw [List.getElem?_map, (zip_get y).1]
    rfl
  stop := fun i P H u h hi => ⟨h.2.2.2, by rw [List.length_zip, h.2.1, Nat.min_self, ← h.2.1]; simpa using hi⟩
theorem it_items {G : Gd} {a : Addr} {ob : Obj} {ks : List Key} {vs : List V} {ds : List D} (hkd : ks.length = ds.length) : ItOk G false (Iti a ob (ks.zip vs)) (itemsL ks ds) fun P H => StayD G P H a ob ks vs ds where
  stay := fun P H P' H' A _ _ e h => h.ext e
  go := fun i P H u h hi => by
    rw [itemsL_len hkd] at hi
    obtain ⟨v, d, h1, h2, h3⟩ := h.2.2.1.at? hi
    have hl : (ks.zip vs).length = ds.length := by rw [List.length_zip, h.2.1, Nat.min_self, h.2.2.1.length]
    refine ⟨⟨h.2.2.2, by omega⟩, fun x H' hy => ?_⟩
    obtain ⟨T, k, w, y, ex, hT, eH⟩ := hy
    subst ex eH
    obtain ⟨q1, q2⟩ := zip_get y
    rw [h1] at q2
    cases q2
    have ex := ext_fix (o := .tup [kV k, v]) u hT
    exact ⟨_, _, ex, itemsL_get q1 h2, .tup (SqT.of upd_same) (.cons (A := []) (B := []) (keyD_rel k) (.cons (A := []) (B := []) (h3.mono ex.same (by simp)) .nil))⟩
  stop := fun i P H u h hi => ⟨h.2.2.2, by rw [List.length_zip, h.2.1, Nat.min_self, h.2.2.1.length, ← itemsL_len hkd]; exact hi⟩
/-- the value, locked -/
theorem pe_lk {t : TE} (h : PE X e t) : PE X e fun σ H Q => t σ H fun x H1 => ∃ d kvs, x = .ref d ∧ ((∃ o, H1 d = some (.frz o (.dK kvs)) ∧ Q x H1) ∨ (H1 d = some (.dK kvs) ∧ ∀ od, Q x (upd H1 d (.frz od (.dK kvs))))) := by
  refine ⟨fun pins s σ H Q I hw => ?_⟩
  refine thn (h.run pins s σ H _ I hw) fun v s1 ⟨x, H1, I1, r, d, kvs, ex, q⟩ => ?_
  rcases q with ⟨o, hd, q⟩ | ⟨hd, q⟩
  · exact ⟨x, H1, I1, r, q⟩
  · obtain ⟨od, I2⟩ := I1.lock hd trivial
    exact ⟨x, _, I2, r, q od⟩
/-- a dict that comes now: it stays, and may be locked -/
theorem dict_src {G : Gd} {P H P1 H1 : Hp} {B : List Addr} {v : V} {ob : Bool} {ks : List Key} {ds : List D} (un : Under P H) (e : Ext P H P1 H1 []) (r : Rel G P1 H1 v (.dct ob ks ds) B) (f : Fresh P1 H B) (hc : cleanL ds = true) :
    ∃ a vs P2, v = .ref a ∧ P2 a = some (.dK (ks.zip vs)) ∧ ks.length = vs.length ∧ RelL G P2 H1 vs ds [] ∧ Ext P H P2 H1 [] ∧ (H1 a = some (.dK (ks.zip vs)) ∨ ∃ o, H1 a = some (.frz o (.dK (ks.zip vs)))) := by
  cases r with
  | @dctF a ks vs ds hP hl rl =>
    refine ⟨a, vs, P1, rfl, hP, hl, rl, e, ?_⟩
    rcases e.und _ _ hP with z | ⟨o, _, _, z⟩ | ⟨_, _, z, _⟩
    · exact .inl z
    · exact .inr ⟨o, z⟩
    · cases z
  | @dctO a ks vs ds A0 hH hl rl =>
    have o : ∀ b ∈ [a], P1 b = none := fun b hb => by
      have hb : b = a := by simpa using hb
      subst hb
      exact (f.2 b List.mem_cons_self).2
    have g := give_ext (A := [a]) e.und o
    refine ⟨a, vs, give P1 H1 [a], rfl, by rw [give_in (by simp)]; exact hH, hl, (rl.nil_of hc).mono g.same (by simp), ⟨e.same.trans g.same, g.und, e.keep, e.lck, fun b w q => ?_⟩, .inl hH⟩
    rcases g.new b w q with z | z | z
    · exact e.new b w z
    · exact .inr (.inl (e.free un z))
    · have hb : b = a := by simpa using z
      subst hb
      exact .inr (.inl (f.2 b List.mem_cons_self).1)
theorem ext_lock {P H : Hp} {a : Addr} {kvs : List (Key × V)} (un : Under P H) (hP : P a = some (.dK kvs)) (hH : H a = some (.dK kvs)) (od : Obj) : Ext P H P (upd H a (.frz od (.dK kvs))) [] where
  same := Same.refl P
  und := fun b u q => by
    by_cases hb : b = a
    · subst hb
      rw [hP] at q
      cases q
      exact .inr (.inl ⟨od, kvs, rfl, upd_same⟩)
    · rw [upd_ne hb]; exact un b u q
  keep := fun b o q n _ => by
    have : b ≠ a := fun z => by rw [z, hP] at n; cases n
    rw [upd_ne this]; exact q
  lck := fun b o u q => by
    have : b ≠ a := fun z => by rw [z, hH] at q; cases q
    rw [upd_ne this]; exact q
  new := fun b o q => .inl q
/-- the walk's source -/
theorem dict_walk {bor : Bool} {S : Env → Res D} {f : D → Option (List D)} {mk : Addr → Obj → List (Key × V) → It} (hf : ∀ d ds, f d = some ds → ∃ ob ks es, d = .dct ob ks es ∧ cleanL es = true ∧ ∀ G a o vs, ItOk G false (mk a o (ks.zip vs)) ds fun P H => StayD G P H a o ks vs es) {σ : Sl} {H : Hp} {R : It → Hp → Prop} (h : tI (gd X) W bor (fun ρ => (S ρ).bind fun d => opt (f d)) σ H R) :
    (tE (gd X) W S σ H fun x H1 => ∃ d kvs, x = .ref d ∧ ((∃ o, H1 d = some (.frz o (.dK kvs)) ∧ (fun (x : V) (H1 : Hp) => ∃ d o kvs, x = .ref d ∧ H1 d = some (.frz o (.dK kvs)) ∧ R (mk d o kvs) H1) x H1) ∨ (H1 d = some (.dK kvs) ∧ ∀ od, (fun (x : V) (H1 : Hp) => ∃ d o kvs, x = .ref d ∧ H1 d = some (.frz o (.dK kvs)) ∧ R (mk d o kvs) H1) x (upd H1 d (.frz od (.dK kvs)))))) := by
  obtain ⟨P, ρ, A, st, h⟩ := h
  refine ⟨P, ρ, A, st, ?_⟩
  cases hs : S ρ with
  | bad => simp only [hs, Res.bind] at h
  | exc x => simp only [hs, Res.bind] at h; exact h
  | ok d =>
    simp only [hs, Res.bind] at h
    cases hd : f d with
    | none => simp only [hd, opt] at h
    | some ds =>
      simp only [hd, opt] at h
      obtain ⟨ob, ks, es, rfl, hc, it⟩ := hf d ds hd
      intro v P1 H1 B e1 r fr
      obtain ⟨a, vs, P2, rfl, hP, hl, rl, e2, hH⟩ := dict_src st.und e1 r fr hc
      refine ⟨a, ks.zip vs, rfl, ?_⟩
      rcases hH with hH | ⟨o, hH⟩
      · refine .inr ⟨hH, fun od => ⟨a, od, ks.zip vs, rfl, upd_same, ?_⟩⟩
        have e3 := ext_lock e2.und hP hH od
        exact h (mk a od (ks.zip vs)) P2 _ (fun P H => StayD (gd X) P H a od ks vs es) (it (gd X) a od vs).any ⟨hP, hl, rl.mono (Same.refl _) (by simp), upd_same⟩ (e2.trans st.und e3)
      · exact .inl ⟨o, hH, a, o, ks.zip vs, rfl, hH, h (mk a o (ks.zip vs)) P2 _ (fun P H => StayD (gd X) P H a o ks vs es) (it (gd X) a o vs).any ⟨hP, hl, rl, hH⟩ e2⟩
def sVals (S : Env → Res D) : Env → Res (List D) := fun ρ => (S ρ).bind fun d => opt (valsD d)
def sItems (S : Env → Res D) : Env → Res (List D) := fun ρ => (S ρ).bind fun d => opt (itemsD d)
def sKeys (S : Env → Res D) : Env → Res (List D) := fun ρ => (S ρ).bind fun d => opt (keysD d)
theorem i_vals {bor : Bool} {tg : Expr} (he : EOk X W e S) (hbase : attributeBase e "values" X.env (eval e X.env) = eval e X.env := by rfl) (hline : (apos.endLine == cpos.line) = true := by rfl) : IOk X W bor tg (.Call (.Attribute e "values" apos) [] [] cpos) (sVals S) :=
  ⟨PI.imp (pi_values (pe_lk he.pe) hbase hline) fun σ H R h => dict_walk (mk := Itd) (fun d ds hd => by
    unfold valsD at hd
    split at hd
    · split at hd
      · rename_i c
        cases hd
        exact ⟨_, _, _, rfl, c, fun G a o vs => it_vals⟩
      · cases hd
    · cases hd) h⟩
theorem i_items {bor : Bool} {elts : List Expr} {kk : Nat} {tpos : Pos} (he : EOk X W e S) (hbase : attributeBase e "items" X.env (eval e X.env) = eval e X.env := by rfl) (hline : (apos.endLine == cpos.line) = true := by rfl) : IOk X W bor (.Tuple elts kk tpos) (.Call (.Attribute e "items" apos) [] [] cpos) (sItems S) :=
  ⟨PI.imp (pi_items (pe_lk he.pe) hbase hline) fun σ H R h => dict_walk (mk := Iti) (fun d ds hd => by
    unfold itemsD at hd
    split at hd
    · split at hd
      · rename_i c
        cases hd
        exact ⟨_, _, _, rfl, c.1, fun G a o vs => it_items c.2⟩
      · cases hd
    · cases hd) h⟩
theorem i_keys {bor : Bool} {tg : Expr} (he : EOk X W e S) : IOk X W bor tg e (sKeys S) :=
  ⟨PI.imp (pi_keys (pe_lk he.pe)) fun σ H R h => by
    have q := dict_walk (mk := Itk) (f := keysD) (S := S) (W := W) (fun d ds hd => by
      unfold keysD at hd
      split at hd
      · split at hd
        · rename_i c
          cases hd
          exact ⟨_, _, _, rfl, c, fun G a o vs => it_keys⟩
        · cases hd
      · cases hd) h
    obtain ⟨P, ρ, A, st, q⟩ := q
    refine ⟨P, ρ, A, st, ?_⟩
    cases hs : S ρ with
    | bad => rw [hs] at q; exact q
    | exc x => rw [hs] at q; exact q
    | ok d =>
      rw [hs] at q
      intro v P1 H1 B e1 r f
      obtain ⟨dd, kvs, ex, qq⟩ := q v P1 H1 B e1 r f
      refine ⟨dd, kvs, ex, ?_⟩
      rcases qq with ⟨o, h1, d', o', kvs', x', h2, hR⟩ | ⟨h1, hq⟩
      · exact .inl ⟨o, h1, d', o', x', .inl ⟨kvs', h2, hR⟩⟩
      · refine .inr ⟨h1, fun od => ?_⟩
        obtain ⟨d', o', kvs', x', h2, hR⟩ := hq od
        exact ⟨d', o', x', .inl ⟨kvs', h2, hR⟩⟩⟩
/-! ### list(d), len(d) -/
theorem call_listRd (hc : X.calm = true) : CallR X (.type "list") (fun xs H Q => ∃ p kvs, xs = [.ref p] ∧ Rd H p (.dK kvs) ∧ ∀ q, H q = none → Q (.ref q) (upd H q (.lst (kvs.map fun kv => kV kv.1)))) := by
  intro pins s σ H xs us Q I r h
  obtain ⟨p, kvs, e, hk, q⟩ := h
  subst e
  obtain ⟨u, eu, rx⟩ := vals1 r
  subst eu
  obtain rfl : u = Value.ref p := rx
  obtain ⟨z, lo, vs, rk, hd⟩ := (show ObjOk X.prog X.w H s.heap p (.dK kvs) from hk.ok I.hok)
  obtain ⟨ep, hat⟩ := hd.dictAt
  have hl : kvs.length = vs.length := Paired.length rk
  refine PySem.W.kdl_call (PySem.W.kdl_dict (knd := mixKind X.prog X.w) (kvs := vs) (ep := ep) lo) (I.ok.hd hc) hat (by rw [← hl]; exact z) fun h' tk acc' c' hkeep hS hacc => ?_
  refine ⟨.ref s.heap.objs.size, upd H s.heap.objs.size (.lst (kvs.map fun kv => kV kv.1)), I.laid hkeep (Nat.le_refl _) (show ObjOk X.prog X.w _ _ _ (.lst (kvs.map fun kv => kV kv.1)) from ⟨?_, acc'.toList, c', ?_, ?_⟩), rfl, q _ (I.hok.fresh (Nat.le_refl _))⟩
  · rw [List.length_map]; exact z
  · have el : acc'.toList.length = acc'.size := by simp
    refine vals_of_at (by rw [List.length_map, el, hacc.1, hl]) fun j x w h1 h2 => ?_
    obtain ⟨k, y, hky, hi⟩ := hacc.2 j w (by rw [← Array.getElem?_toList]; exact h2)
    have e1 : (kvs.map (·.1))[j]? = some k := by
      rw [KV.keys rk, List.getElem?_map, hky] <;> rfl
    have e2 : (kvs.map fun kv => kV kv.1)[j]? = some (kV k) := by
      have e3 : (kvs.map fun kv => kV kv.1) = (kvs.map (·.1)).map kV := by rw [List.map_map] <;> rfl
      rw [e3, List.getElem?_map, e1] <;> rfl
    rw [e2] at h1
    cases h1
    exact keyIs_rel hi
  · rw [Array.toArray_toList]; exact hS
theorem keysD_rel {G : Gd} {P H : Hp} : ∀ (ks : List Key), RelL G P H (ks.map kV) (ks.map keyD) []
  | [] => .nil
  | k :: ks => .cons (A := []) (B := []) (keyD_rel k) (keysD_rel ks)
def fListX : D → Option D
  | .dct _ ks ds => if ks.length = ds.length then some (.lst true (ks.map keyD)) else none
  | d => fList d
theorem fListX_else {d : D} (h : ∀ o ks ds, d ≠ .dct o ks ds) : fListX d = fList d := by
  cases d <;> first | rfl | exact absurd rfl (h _ _ _)
theorem c_listX (hc : X.calm = true) : CallR X (.type "list") (rC (gd X) (on1 fListX)) := CallR.imp (CallR.or c_list (call_listRd hc)) fun xs H Q h => by
  obtain ⟨v, P, d, B, z, rfl, un, r, o, hf, q⟩ := rC1 h
  cases d with
  | dct ob ks ds =>
    simp only [fListX] at hf
    split at hf
    · rename_i c
      cases hf
      obtain ⟨p, vs, B0, rfl, hdk, hl, rl, hB⟩ := dget_of un r
      refine .inr ⟨p, _, rfl, hdk, fun p' hp => ?_⟩
      have e : (ks.zip vs).map (fun kv => kV kv.1) = ks.map kV := by
        rw [show (fun kv : Key × V => kV kv.1) = kV ∘ Prod.fst from rfl, ← List.map_map, List.map_fst_zip (by omega)]
      rw [e]
      exact post_lst un q (keysD_rel ks) hp
    · cases hf
  | _ =>
    left
    rw [fListX_else (by intro _ _ _ z; cases z)] at hf
    have hf' := hf
    exact ⟨P, _, B ++ [], un, .cons r .nil, by simpa using o, by simp only [on1, hf']; exact q⟩
theorem call_lenRd : CallR X (.builtin "len") (fun xs H Q => ∃ a kvs, xs = [V.ref a] ∧ Rd H a (.dK kvs) ∧ Q (.int kvs.length) H) := by
  intro pins s σ H xs us Q I r h
  obtain ⟨a, kvs, rfl, ha, q⟩ := h
  obtain ⟨u, rfl, ru⟩ := vals1 r
  cases ru
  exact d_len I ha fun t s' I' => ⟨.int kvs.length, H, I', ⟨t, rfl⟩, q⟩
def fLenX : D → Option D
  | .dct _ ks ds => if ks.length = ds.length then some (.int ks.length) else none
  | d => fLen d
theorem fLenX_else {d : D} (h : ∀ o ks ds, d ≠ .dct o ks ds) : fLenX d = fLen d := by
  cases d <;> first | rfl | exact absurd rfl (h _ _ _)
theorem c_lenX : CallR X (.builtin "len") (rC (gd X) (on1 fLenX)) := CallR.imp (CallR.or c_len call_lenRd) fun xs H Q h => by
  obtain ⟨v, P, d, B, z, rfl, un, r, o, hf, q⟩ := rC1 h
  cases d with
  | dct ob ks ds =>
    simp only [fLenX] at hf
    split at hf
    · rename_i c
      cases hf
      obtain ⟨p, vs, B0, rfl, hdk, hl, rl, hB⟩ := dget_of un r
      refine .inr ⟨p, _, rfl, hdk, ?_⟩
      rw [List.length_zip, hl, Nat.min_self, ← hl]
      exact post_val un q (.int _)
    · cases hf
  | _ =>
    left
    rw [fLenX_else (by intro _ _ _ z; cases z)] at hf
    have hf' := hf
    exact ⟨P, _, B ++ [], un, .cons r .nil, by simpa using o, by simp only [on1, hf']; exact q⟩
end
end RL

/-! RL: texts' methods, lists asked, walks of any kind, parts of what comes now. -/
namespace RL
open PySem PySem.Spec PyProof.Rows L2
section
variable {X : Cx} {W : WX} {L : List Nat} {e a b o f : Expr} {pos apos cpos : Pos} {Sa Sb S So : Env → Res D} {Pl : Env → Res Plc} {k : Nat}
/-! ### methods of a text -/
/-- what a rule of one argument asks -/
def rA (G : Gd) (f : D → Option D) : V → Hp → VK → Prop := fun y H Q => ∃ P dy By, Under P H ∧ Rel G P H y dy By ∧ (∀ b ∈ By, P b = none) ∧ match f dy with
  | some d => Post G P H Q d
  | none => False
def sM1 (f : Str → D → Option D) (So Sa : Env → Res D) : Env → Res D := fun ρ => (So ρ).bind fun x => match x with
  | .str a => (Sa ρ).bind fun y => opt (f a y)
  | _ => .bad
theorem m1_of {f : Str → D → Option D} {r : V → List V → Hp → VK → Prop} (hr : ∀ a y H Q, rA (gd X) (f a) y H Q → r (.str a) [y] H Q) {σ : Sl} {H : Hp} {Q : VK} (h : tE (gd X) W (sM1 f So Sa) σ H Q) : tM1 r (tBo (gd X) W So) (tBo (gd X) W Sa) σ H Q := by
  obtain ⟨P, ρ, A, st, h⟩ := h
  refine ⟨P, ρ, A, st, ?_⟩
  unfold sM1 at h
  cases ha : So ρ with
  | bad => simp only [ha, Res.bind] at h
  | exc x => simp only [ha, Res.bind] at h; exact h
  | ok dx =>
    simp only [ha, Res.bind] at h
    intro v P1 H1 B1 e1 r1 o1
    cases dx with
    | str x =>
      cases r1
      refine ⟨⟨x, rfl⟩, P1, ρ, A, st.ext e1, ?_⟩
      simp only at h
      cases hb : Sa ρ with
      | bad => simp only [hb] at h
      | exc x => simp only [hb] at h; exact PostX.ext h st.und e1
      | ok dy =>
        simp only [hb] at h
        intro v2 P2 H2 B2 e2 r2 o2
        refine hr _ _ _ _ ⟨P2, dy, B2, e2.und, r2, o2, ?_⟩
        cases hf : f x dy with
        | none => simp only [hf, opt] at h
        | some d => simp only [hf, opt] at h; exact Post.ext h st.und (e1.trans st.und e2)
    | _ => simp only at h
def strsD : List D → Option (List Str)
  | [] => some []
  | .str x :: r => (strsD r).map (x :: ·)
  | _ :: _ => none
theorem strs_rel {G : Gd} {P H : Hp} : ∀ {xs : List V} {ds : List D} {A : List Addr} {ys : List Str}, RelL G P H xs ds A → strsD ds = some ys → xs = ys.map V.str
  | _, _, _, ys, .nil, h => by simp only [strsD, Option.some.injEq] at h; subst h; rfl
  | _, _, _, ys, .cons (d := d) (ds := ds) r t, h => by
    cases r with
    | str x =>
      simp only [strsD] at h
      cases hb : strsD ds with
      | none => rw [hb] at h; cases h
      | some cs => rw [hb] at h; cases h; rw [List.map_cons, strs_rel t hb]
    | _ => simp [strsD] at h
theorem strs_relD {G : Gd} {P H : Hp} : ∀ ys : List Str, RelL G P H (ys.map V.str) (ys.map D.str) []
  | [] => .nil
  | y :: ys => .cons (A := []) (B := []) (.str y) (strs_relD ys)
def joinOk (a : Str) (ys : List Str) : Bool := decide ((ys.map (·.length)).sum + ys.length * a.length ≤ 16777216)
def fJoin (a : Str) : D → Option D
  | .lst _ ds => (strsD ds).bind fun ys => if joinOk a ys = true then some (.str (Txt.join a ys)) else none
  | .tup ds => (strsD ds).bind fun ys => if joinOk a ys = true then some (.str (Txt.join a ys)) else none
  | _ => none
theorem e_join (ho : BOk X W o So) (he : BOk X W e Sa) (hs : starEach [e] X.env = [(false, eval e X.env)] := by rfl) (hbase : attributeBase o "join" X.env (eval o X.env) = eval o X.env := by rfl) (hline : (apos.endLine == pos.line) = true := by rfl) :
    EOk X W (.Call (.Attribute o "join" apos) [e] [] pos) (sM1 fJoin So Sa) := ⟨PE.imp (pe_join ho.pe he.pe hs hbase hline) fun σ H Q h => m1_of (fun a y H Q ⟨P, dy, By, un, r, o, h⟩ => by
  have fin : ∀ {p : Addr} {xs : List V} {ds : List D} {B : List Addr}, y = .ref p → (SqL X.K H p xs ∨ SqT X.K H p xs) → RelL (gd X) P H xs ds B → (match (strsD ds).bind fun ys => if joinOk a ys = true then some (D.str (Txt.join a ys)) else none with | some d => Post (gd X) P H Q d | none => False) →
      ∃ a' p, ∃ ys : List Str, V.str a = .str a' ∧ [y] = [.ref p] ∧ (SqL X.K H p (ys.map V.str) ∨ SqT X.K H p (ys.map V.str)) ∧ (ys.map (·.length)).sum + ys.length * a'.length ≤ 16777216 ∧ Q (.str (Txt.join a' ys)) H := by
    intro p xs ds B ey hs rl h
    cases hd : strsD ds with
    | none => rw [hd] at h; exact h.elim
    | some ys =>
      rw [hd] at h
      simp only [Option.bind_some] at h
      by_cases c : joinOk a ys = true
      · rw [if_pos c] at h
        have e := strs_rel rl hd
        subst e
        exact ⟨a, p, ys, rfl, by rw [ey], hs, by simpa [joinOk] using c, post_val un h (.str _)⟩
      · rw [if_neg c] at h; exact h.elim
  cases r with
  | lstF hP rl => exact fin rfl (.inl (SqL.of (un.lst hP))) rl h
  | lstO hH rl => exact fin rfl (.inl (SqL.of hH)) rl h
  | tup hT rl => exact fin rfl (.inr (un.seqT hT)) rl h
  | _ => exact h.elim) h⟩
def fSplit (a : Str) : D → Option D
  | .str b => if b.length ≠ 0 ∧ a.length + 2 ≤ sizeLine then some (.lst true ((Txt.split a b).map .str)) else none
  | _ => none
theorem e_split (ho : BOk X W o So) (he : BOk X W e Sa) (hs : starEach [e] X.env = [(false, eval e X.env)] := by rfl) (hbase : attributeBase o "split" X.env (eval o X.env) = eval o X.env := by rfl) (hline : (apos.endLine == pos.line) = true := by rfl) :
    EOk X W (.Call (.Attribute o "split" apos) [e] [] pos) (sM1 fSplit So Sa) := ⟨PE.imp (pe_split ho.pe he.pe hs hbase hline) fun σ H Q h => m1_of (fun a y H Q ⟨P, dy, By, un, r, o, h⟩ => by
  cases r with
  | str b =>
    simp only [fSplit] at h
    by_cases c : b.length ≠ 0 ∧ a.length + 2 ≤ sizeLine
    · rw [if_pos c] at h
      exact ⟨a, b, rfl, rfl, beq_eq_false_iff_ne.mpr c.1, c.2, fun p hp => post_lst un h (strs_relD _) hp⟩
    · rw [if_neg c] at h; exact h.elim
  | _ => exact h.elim) h⟩
def fPart (a : Str) : D → Option D
  | .str b => if b.length ≠ 0 ∧ a.length ≤ sizeLine then some (.tup [.str (Txt.partition a b).1, .str (Txt.partition a b).2.1, .str (Txt.partition a b).2.2]) else none
  | _ => none
theorem e_partition (ho : BOk X W o So) (he : BOk X W e Sa) (hs : starEach [e] X.env = [(false, eval e X.env)] := by rfl) (hbase : attributeBase o "partition" X.env (eval o X.env) = eval o X.env := by rfl) (hline : (apos.endLine == pos.line) = true := by rfl) :
    EOk X W (.Call (.Attribute o "partition" apos) [e] [] pos) (sM1 fPart So Sa) := ⟨PE.imp (pe_partition ho.pe he.pe hs hbase hline) fun σ H Q h => m1_of (fun a y H Q ⟨P, dy, By, un, r, o, h⟩ => by
  cases r with
  | str b =>
    simp only [fPart] at h
    by_cases c : b.length ≠ 0 ∧ a.length ≤ sizeLine
    · rw [if_pos c] at h
      exact ⟨a, b, rfl, rfl, beq_eq_false_iff_ne.mpr c.1, c.2, fun p hp => post_tup un h (.cons (A := []) (B := []) (.str _) (.cons (A := []) (B := []) (.str _) (.cons (A := []) (B := []) (.str _) .nil))) hp⟩
    · rw [if_neg c] at h; exact h.elim
  | _ => exact h.elim) h⟩
def fZfill (a : Str) : D → Option D
  | .int i => if PadOk i = true then some (.str (Txt.zfill a i)) else none
  | _ => none
theorem e_zfill (ho : BOk X W o So) (he : BOk X W e Sa) (hs : starEach [e] X.env = [(false, eval e X.env)] := by rfl) (hbase : attributeBase o "zfill" X.env (eval o X.env) = eval o X.env := by rfl) (hline : (apos.endLine == pos.line) = true := by rfl) :
    EOk X W (.Call (.Attribute o "zfill" apos) [e] [] pos) (sM1 fZfill So Sa) := ⟨PE.imp (pe_m1 PySem.F.slot_str_zfill PySem.F.type_str_zfill mt_zfill ho.pe he.pe hs hbase hline) fun σ H Q h => m1_of (fun a y H Q ⟨P, dy, By, un, r, o, h⟩ => by
  cases r with
  | int b =>
    simp only [fZfill] at h
    by_cases c : PadOk b = true
    · rw [if_pos c] at h
      exact ⟨a, b, rfl, rfl, c, post_val un h (.str _)⟩
    · rw [if_neg c] at h; exact h.elim
  | _ => exact h.elim) h⟩
def fCountS (a : Str) : D → Option D
  | .str b => some (.int (Txt.count a b))
  | _ => none
theorem e_countS (ho : BOk X W o So) (he : BOk X W e Sa) (hs : starEach [e] X.env = [(false, eval e X.env)] := by rfl) (hbase : attributeBase o "count" X.env (eval o X.env) = eval o X.env := by rfl) (hline : (apos.endLine == pos.line) = true := by rfl) :
    EOk X W (.Call (.Attribute o "count" apos) [e] [] pos) (sM1 fCountS So Sa) := ⟨PE.imp (pe_m1 PySem.F.slot_str_count PySem.F.type_str_count mt_count ho.pe he.pe hs hbase hline) fun σ H Q h => m1_of (fun a y H Q ⟨P, dy, By, un, r, o, h⟩ => by
  cases r with
  | str b => exact ⟨a, b, rfl, rfl, post_val un h (.int _)⟩
  | _ => exact h.elim) h⟩
/-- what is not covered: no claim -/
theorem e_wall : EOk X W e (fun _ => Res.bad) := ⟨⟨fun pins s σ H Q I ⟨P, ρ, A, st, h⟩ => h.elim⟩⟩
/-! ### walks of any kind -/
theorem it_str {G : Gd} {x : Str} : ItOk G false (Its x) (x.cps.toList.map fun c => .str ⟨#[c]⟩) fun _ _ => True where
  stay := fun _ _ _ _ _ _ _ _ _ => trivial
  go := fun i P H u _ hi => by
    rw [List.length_map] at hi
    have hs : i < x.cps.size := by simpa using hi
    refine ⟨hs, fun v H' hy => ?_⟩
    obtain ⟨e, c, hc, ev⟩ := hy
    subst e ev
    refine ⟨P, _, Ext.refl u, ?_, .str _⟩
    rw [List.getElem?_map]
    have : x.cps.toList[i]? = some c := by simpa using hc
    rw [this]
    rfl
  stop := fun i P H u _ hi => by
    rw [List.length_map] at hi
    show x.cps.size ≤ i
    simpa using hi
def strD : D → Option (List D)
  | .str x => some (x.cps.toList.map fun c => .str ⟨#[c]⟩)
  | _ => none
def sStr (S : Env → Res D) : Env → Res (List D) := fun ρ => (S ρ).bind fun d => opt (strD d)
theorem i_str {bor : Bool} {tg : Expr} (h : EOk X W e S) : IOk X W bor tg e (sStr S) := ⟨PI.imp (pi_str h.pe) fun σ H R ⟨P, ρ, A, st, q⟩ => ⟨P, ρ, A, st, by
  unfold sStr at q
  cases hs : S ρ with
  | bad => simp only [hs, Res.bind] at q
  | exc x => simp only [hs, Res.bind] at q; exact q
  | ok d =>
    simp only [hs, Res.bind] at q
    intro v P1 H1 B e1 r f
    cases r with
    | str x => exact ⟨x, rfl, q _ P1 H1 _ it_str.any trivial e1⟩
    | _ => exact (show False from q).elim⟩⟩
/-- a list, a tuple, the script, a text's signs, a dict's keys -/
def iterD : D → Option (List D)
  | .str x => strD (.str x)
  | .dct o ks ds => keysD (.dct o ks ds)
  | d => seqD d
def sIter (S : Env → Res D) : Env → Res (List D) := fun ρ => (S ρ).bind fun d => opt (iterD d)
theorem i_ways {bor : Bool} {tg : Expr} {T : Env → Res (List D)} (h1 : IOk X W bor tg e T) (hT : ∀ ρ, T ρ = sSeq S ρ) (h : EOk X W e S) : IOk X W bor tg e (sIter S) := ⟨PI.imp (PI.or h1.pi (PI.or (i_str h).pi (i_keys h).pi)) fun σ H R ⟨P, ρ, A, st, q⟩ => by
  unfold sIter at q
  have go : ∀ {T' : Env → Res (List D)}, T' ρ = (S ρ).bind (fun d => opt (iterD d)) → tI (gd X) W bor T' σ H R := fun {T'} e => ⟨P, ρ, A, st, by rw [e]; exact q⟩
  cases hs : S ρ with
  | bad => simp only [hs, Res.bind] at q
  | exc x => exact .inl (go (by rw [hT]; simp only [sSeq, hs, Res.bind]))
  | ok d =>
    cases d with
    | str x => exact .inr (.inl (go (by simp only [sStr, hs, Res.bind, iterD])))
    | dct ob ks ds => exact .inr (.inr (go (by simp only [sKeys, hs, Res.bind, iterD])))
    | _ => exact .inl (go (by rw [hT]; simp only [sSeq, hs, Res.bind, iterD]))⟩
theorem i_any {bor : Bool} {tg : Expr} (h : EOk X W e S) : IOk X W bor tg e (sIter S) := i_ways (i_seq h) (fun _ => rfl) h
/-! ### a part of what comes now -/
theorem RelL.getS {G : Gd} {P H : Hp} : ∀ {vs : List V} {ds : List D} {A : List Addr} {i : Nat} {d : D}, RelL G P H vs ds A → ds[i]? = some d → ∃ v B, vs[i]? = some v ∧ Rel G P H v d B ∧ B.Sublist A
  | _, _, _, _, _, .nil, e => by simp at e
  | _, _, _, 0, _, .cons r t, e => by simp at e; subst e; exact ⟨_, _, rfl, r, List.sublist_append_left _ _⟩
  | _, _, _, i + 1, _, .cons r t, e => by
    obtain ⟨v, B, h1, h2, h3⟩ := RelL.getS (i := i) t (by simpa using e)
    exact ⟨v, B, by simpa using h1, h2, h3.trans (List.sublist_append_right _ _)⟩
theorem atI_relS {G : Gd} {P H : Hp} {vs : List V} {ds : List D} {A : List Addr} {i : Int} {d : D} (r : RelL G P H vs ds A) (e : atI ds i = some d) : ∃ v B, atI vs i = some v ∧ Rel G P H v d B ∧ B.Sublist A := by
  unfold atI at e ⊢
  rw [r.length]
  cases h : ixN ds.length i with
  | none => rw [h] at e; cases e
  | some j =>
    rw [h] at e
    exact r.getS e
theorem lookD_relS {G : Gd} {P H : Hp} : ∀ {ks : List Key} {vs : List V} {ds : List D} {A : List Addr} {k : Key} {d : D}, RelL G P H vs ds A → ks.length = vs.length → lookD ks ds k = some d → ∃ v B, valV (ks.zip vs) k = some v ∧ Rel G P H v d B ∧ B.Sublist A
  | [], _, _, _, _, _, _, _, e => by simp [lookD] at e
  | _ :: _, [], _, _, _, _, _, h, _ => by simp at h
  | k :: ks, v :: vs, _, _, j, d, .cons (d := d0) (ds := ds) r t, h, e => by
    by_cases hk : k = j
    · have e' : d0 = d := by simpa [lookD, hk] using e
      subst e'
      exact ⟨v, _, by simp [valV, hk], r, List.sublist_append_left _ _⟩
    · have e' : lookD ks ds j = some d := by simpa [lookD, hk] using e
      obtain ⟨w, B, h1, h2, h3⟩ := lookD_relS t (by simpa using h) e'
      refine ⟨w, B, ?_, h2, h3.trans (List.sublist_append_right _ _)⟩
      unfold valV at h1 ⊢
      rw [List.zip_cons_cons, List.find?_cons_of_neg (by simpa using hk)]
      exact h1
theorem e_ixF (hu : X.A.units + 1 < cLine) (ha : EOk X W a Sa) (hb : BOk X W b Sb) (hs : PlainIx b := by exact fun _ _ => rfl) : EOk X W (.Subscript a b pos) (sIx Sa Sb) :=
  ⟨PE.imp (PE.or (pe_ix ix_seq ha.pe hb.pe hs) (pe_dget hu ha.pe hb.pe hs)) fun σ H Q ⟨P, ρ, A, st, h⟩ => by
    unfold sIx s2 at h
    cases hd : Sa ρ with
    | bad => simp only [hd, Res.bind] at h
    | exc x => exact .inl ⟨P, ρ, A, st, by rw [hd]; simp only [hd, Res.bind] at h; exact h⟩
    | ok dx =>
      simp only [hd, Res.bind] at h
      have com : ∀ {v : V} {P1 H1 : Hp} {B1 : List Addr}, Ext P H P1 H1 [] → Rel (gd X) P1 H1 v dx B1 → Fresh P1 H B1 → ∀ {r : V → V → Hp → VK → Prop}, (∀ {P2 H2 : Hp} {v2 : V} {dy d : D} {B2 : List Addr}, Under P2 H2 → Rel (gd X) P2 H2 v dx B1 → Rel (gd X) P2 H2 v2 dy B2 → opIx dx dy = some d → (∀ w C, Rel (gd X) P2 H2 w d C → C.Sublist B1 → Q w H2) → r v v2 H2 Q) →
          tBo (gd X) W Sb σ H1 fun v2 H2 => r v v2 H2 Q := by
        intro v P1 H1 B1 e1 r1 f1 r hr
        refine ⟨P1, ρ, A, st.ext e1, ?_⟩
        cases hb : Sb ρ with
        | bad => simp only [hb] at h
        | exc x => simp only [hb] at h; exact PostX.ext h st.und e1
        | ok dy =>
          simp only [hb] at h
          intro v2 P2 H2 B2 e2 r2 o2
          have o1 : ∀ b ∈ B1, P1 b = none := fun b hb => (f1.2 b hb).2
          cases hf : opIx dx dy with
          | none => rw [hf] at h; exact h.elim
          | some d =>
            rw [hf] at h
            exact hr e2.und (r1.ext e2 o1) r2 hf fun w C rw sC => h w P2 H2 C (e1.trans st.und e2) rw ⟨f1.1.sublist sC, fun b hb => ⟨(f1.2 b (sC.subset hb)).1, (e2.own r1.at o1).2 b (sC.subset hb)⟩⟩
      by_cases hdc : ∃ o ks ds, dx = .dct o ks ds
      · obtain ⟨o, ks, ds, rfl⟩ := hdc
        refine .inr ⟨P, ρ, A, st, ?_⟩
        rw [hd]
        intro v P1 H1 B1 e1 r1 f1
        refine com e1 r1 f1 (r := fun x y H Q => ∃ a w, x = .ref a ∧ DGet H a y (some w) ∧ Q w H) ?_
        intro P2 H2 v2 dy d B2 un r1' r2 hf hq
        simp only [opIx] at hf
        cases hk : keyOf dy with
        | none => rw [hk] at hf; cases hf
        | some k =>
          rw [hk] at hf
          simp only [Option.bind_some] at hf
          have ev2 : v2 = kV k := key_rel r2 hk
          subst ev2
          cases r1' with
          | dctF q l r =>
            obtain ⟨w, C, hw, rw', hC⟩ := lookD_relS r l hf
            refine ⟨_, w, rfl, .inl ⟨_, k, ?_, rfl, hw.symm⟩, hq w C rw' hC⟩
            rcases un _ _ q with z | ⟨ob, _, _, z⟩ | ⟨_, _, z, _⟩
            · exact .inl z
            · exact .inr ⟨ob, z⟩
            · cases z
          | dctO q l r =>
            obtain ⟨w, C, hw, rw', hC⟩ := lookD_relS r l hf
            exact ⟨_, w, rfl, .inl ⟨_, k, .inl q, rfl, hw.symm⟩, hq w C rw' (hC.trans (List.sublist_cons_self _ _))⟩
      · refine .inl ⟨P, ρ, A, st, ?_⟩
        rw [hd]
        intro v P1 H1 B1 e1 r1 f1
        refine com e1 r1 f1 (r := rIx X.K) ?_
        intro P2 H2 v2 dy d B2 un r1' r2 ho hq
        cases r1' with
        | tup q r =>
          cases r2 <;> simp [opIx] at ho
          obtain ⟨v, B, h1, h2, h3⟩ := atI_relS r ho
          exact .inr (.inl ⟨_, _, _, v, rfl, rfl, un.seqT q, h1, hq v B h2 h3⟩)
        | lstF q r =>
          cases r2 <;> simp [opIx] at ho
          obtain ⟨v, B, h1, h2, h3⟩ := atI_relS r ho
          exact .inl ⟨_, _, _, v, rfl, rfl, un.seqL (SqL.of q), h1, hq v B h2 h3⟩
        | lstO q r =>
          cases r2 <;> simp [opIx] at ho
          obtain ⟨v, B, h1, h2, h3⟩ := atI_relS r ho
          exact .inl ⟨_, _, _, v, rfl, rfl, SqL.of q, h1, hq v B h2 (h3.trans (List.sublist_cons_self _ _))⟩
        | scr q =>
          cases r2 <;> simp [opIx] at ho
          obtain ⟨n, hn, rfl⟩ := ho
          refine .inl ⟨_, _, _, .int n, rfl, rfl, un.seqL q, ?_, hq _ [] (.int n) (List.nil_sublist _)⟩
          unfold atI at hn ⊢
          rw [List.length_map]
          cases hi : ixN _ _ with
          | none => rw [hi] at hn; cases hn
          | some j =>
            rw [hi] at hn
            simp only [Option.bind] at hn ⊢
            rw [List.getElem?_map, hn]; rfl
        | str z =>
          cases r2 <;> simp [opIx] at ho
          obtain ⟨c, n, hn, rfl⟩ := ho
          exact .inr (.inr ⟨_, _, n, rfl, rfl, c, hn, hq _ [] (.str _) (List.nil_sublist _)⟩)
        | dctF _ _ _ => exact absurd ⟨_, _, _, rfl⟩ hdc
        | dctO _ _ _ => exact absurd ⟨_, _, _, rfl⟩ hdc
        | _ => cases r2 <;> simp [opIx] at ho⟩
/-! ### lists asked -/
/-- a method of a list, not changed by it -/
def sL1 (f : List D → D → Option D) (So Sa : Env → Res D) : Env → Res D := fun ρ => (So ρ).bind fun x => match x with
  | .lst _ ds => (Sa ρ).bind fun y => opt (f ds y)
  | _ => .bad
def intsD : List D → Option (List Int)
  | [] => some []
  | .int x :: r => (intsD r).map (x :: ·)
  | _ :: _ => none
theorem ints_of_rel {G : Gd} {P H : Hp} : ∀ {xs : List V} {ds : List D} {A : List Addr} {ys : List Int}, RelL G P H xs ds A → intsD ds = some ys → xs = ys.map V.int
  | _, _, _, ys, .nil, h => by simp only [intsD, Option.some.injEq] at h; subst h; rfl
  | _, _, _, ys, .cons (d := d) (ds := ds) r t, h => by
    cases r with
    | int x =>
      simp only [intsD] at h
      cases hb : intsD ds with
      | none => rw [hb] at h; cases h
      | some cs => rw [hb] at h; cases h; rw [List.map_cons, ints_of_rel t hb]
    | _ => simp [intsD] at h
end
end RL

/-! RL: what the law's head must find, as Bools; a hook for them. -/
namespace RL
open PySem PySem.Spec PyProof.Rows L2
theorem GRoom.blk {X : Cx} {k : Nat} (h : GRoom k X.A) {s : Shared} {H : Hp} {sc : Scope} {c : PySem.Env} {fp : List Addr} : GRoom k (X.blk s H sc c fp).A := h
theorem GRoom.tr {X : Cx} {k : Nat} (h : GRoom k X.A) {pn : List (Addr × Obj)} {xe : Value → Shared → Prop} : GRoom k (X.tr pn xe).A := h
abbrev FaB : Type := PySem.W.Frag → Bool
def clsB (i : Stmt) : List Stmt := match i with
  | .ClassDef _ _ _ b _ _ _ _ _ _ _ => b
  | _ => []
/-! ### the hook -/
def obsR (fa : List FaB) (fn : List He.DefD) (K : PySem.W.Frag) : He.AlD := ((fa.all fun f => f K) && fn.all fun d => d.ok K, fn.map fun d => He.fnW K d.at_)
def SaysR (fa : List FaB) (fn : List He.DefD) (K : PySem.W.Frag) : Prop := obsR fa fn K = He.valD fn
/-- the written part, without the code objects' tables -/
def asT (g : Addr → Option Obj) (n : Nat) : List Addr := (He.asD g n ++ [sysModules]).filter fun a => !((tabsOf (He.frG g (He.asD g n ++ [sysModules]))).map (·.1)).contains a
def nodupB : List Addr → Bool
  | [] => true
  | a :: l => !l.contains a && nodupB l
def emptyB : Option Obj → Bool
  | some ⟨.none, none, .fields vs, sl⟩ => vs.size == 0 && sl.size == 0
  | _ => false
def tabB (g : Addr → Option Obj) (K : PySem.W.Frag) : Bool := ((tabsOf K).all fun p => emptyB (g p.1)) && nodupB ((tabsOf K).map (·.1))
def obsRG (n : Nat) (fa : List FaB) (fn : List He.DefD) (g : Addr → Option Obj) : He.AlD := (tabB g (He.frG g (asT g n)) && (obsR fa fn (He.frG g (asT g n))).1, (obsR fa fn (He.frG g (asT g n))).2)
theorem frG_mem {g : Addr → Option Obj} {as : List Addr} {c : Addr} {o : Obj} (h : (c, o) ∈ He.frG g as) : c ∈ as ∧ g c = some o := by
  unfold He.frG at h
  obtain ⟨a, ha, e⟩ := List.mem_filterMap.mp h
  cases q : g a with
  | none => rw [q] at e; cases e
  | some o' =>
    rw [q] at e
    cases e
    exact ⟨ha, q⟩
theorem emptyB_of {o : Option Obj} (h : emptyB o = true) : o = some { cls := .none, data := .fields #[] } := by
  unfold emptyB at h
  split at h
  · rename_i vs sl
    simp only [Bool.and_eq_true, beq_iff_eq] at h
    have e1 : vs = #[] := Array.eq_empty_of_size_eq_zero h.1
    have e2 : sl = #[] := Array.eq_empty_of_size_eq_zero h.2
    rw [e1, e2]
  · cases h
theorem nodupB_of : ∀ {l : List (Addr × Str)}, nodupB (l.map (·.1)) = true → ∀ p ∈ l, ∀ p' ∈ l, p.1 = p'.1 → p = p'
  | [], _, p, hp, _, _, _ => by simp at hp
  | a :: l, h, p, hp, p', hp', e => by
    simp only [List.map_cons, nodupB, Bool.and_eq_true, Bool.not_eq_true', List.contains_eq_mem, decide_eq_false_iff_not] at h
    rcases List.mem_cons.mp hp with h1 | h1
    · rcases List.mem_cons.mp hp' with h2 | h2
      · rw [h1, h2]
      · exact absurd (show a.1 ∈ l.map (·.1) from List.mem_map.mpr ⟨p', h2, by rw [← e, h1]⟩) h.1
    · rcases List.mem_cons.mp hp' with h2 | h2
      · exact absurd (show a.1 ∈ l.map (·.1) from List.mem_map.mpr ⟨p, h1, by rw [e, h2]⟩) h.1
      · exact nodupB_of h.2 p h1 p' h2 e
theorem ctab_of {g : Addr → Option Obj} {n : Nat} {h : Heap} (e : ∀ a, g a = h.get? a) (b : tabB g (He.frG g (asT g n)) = true) : CtabOk (He.frG g (asT g n)) h := by
  unfold tabB at b
  simp only [Bool.and_eq_true, List.all_eq_true] at b
  have src : ∀ p ∈ tabsOf (He.frG g (asT g n)), p.1 ∉ asT g n ∧ ∃ c o, c ∈ asT g n ∧ g c = some o ∧ tabOf o = some p := by
    intro p hp
    obtain ⟨⟨c, o⟩, h1, h2⟩ := List.mem_filterMap.mp hp
    obtain ⟨h3, h4⟩ := frG_mem h1
    refine ⟨fun z => ?_, c, o, h3, h4, h2⟩
    have z2 := (List.mem_filter.mp z).2
    have h5 := (List.mem_filter.mp h3).1
    have : p ∈ tabsOf (He.frG g (He.asD g n ++ [sysModules])) := List.mem_filterMap.mpr ⟨(c, o), List.mem_filterMap.mpr ⟨c, h5, by rw [h4]; rfl⟩, h2⟩
    have : p.1 ∈ (tabsOf (He.frG g (He.asD g n ++ [sysModules]))).map (·.1) := List.mem_map.mpr ⟨p, this, rfl⟩
    simp only [List.contains_eq_mem, Bool.not_eq_true', decide_eq_false_iff_not] at z2
    exact z2 this
  refine ⟨fun p hp => ?_, fun p hp => ?_, nodupB_of b.2, fun p hp => ?_⟩
  · rw [← e]
    exact emptyB_of (b.1 p hp)
  · cases q : List.lookup p.1 (He.frG g (asT g n)) with
    | none => rfl
    | some o => exact absurd (frG_mem (look_mem q)).1 (src p hp).1
  · obtain ⟨n1, c, o, h1, h2, h3⟩ := src p hp
    obtain ⟨T, q⟩ := p
    exact ⟨c, tabOf_code h3 (by rw [← e]; exact h2) fun z => n1 (z ▸ h1)⟩
def hookR (n : Nat) (fa : List FaB) (fn : List He.DefD) : PySem.W.Hook where
  α := He.AlD
  obs := fun s => obsRG n fa fn s.heap.get?
  val := fun _ => He.valD fn
  says := fun _ h => ∃ K : PySem.W.Frag, K.In h ∧ SaysR fa fn K ∧ CtabOk K h
  of := fun w s e => by
    have e1 : (tabB s.heap.get? (He.frG s.heap.get? (asT s.heap.get? n)) && (obsR fa fn (He.frG s.heap.get? (asT s.heap.get? n))).1) = true := congrArg (fun z : He.AlD => z.1) e
    have e2 : (obsR fa fn (He.frG s.heap.get? (asT s.heap.get? n))).2 = fn.map He.DefD.val := congrArg (fun z : He.AlD => z.2) e
    obtain ⟨b1, b2⟩ := Bool.and_eq_true_iff.mp e1
    exact ⟨_, He.frG_in, Prod.ext b2 e2, ctab_of (fun _ => rfl) b1⟩
  keeps := fun _ _ _ ⟨K, hK, c, t⟩ k => ⟨K, PySem.W.Frag.In.keeps hK k, c, t.keeps k⟩
theorem obsRG_eq {n : Nat} {fa : List FaB} {fn : List He.DefD} {g : Addr → Option Obj} {s : Shared} (h : ∀ a, g a = s.heap.get? a) : obsRG n fa fn g = (hookR n fa fn).obs s := by
  have e : g = s.heap.get? := funext h
  rw [e] <;> rfl
section
variable {fa : List FaB} {fn : List He.DefD} {K : PySem.W.Frag}
theorem SaysR.fact (c : SaysR fa fn K) (i : Nat) {f : FaB} (h : fa[i]? = some f := by rfl) : f K = true := by
  have c1 := (He.ba (show ((fa.all fun f => f K) && fn.all fun d => d.ok K) = true from congrArg (fun z : He.AlD => z.1) c)).1
  exact List.all_eq_true.mp c1 f (List.mem_of_getElem? h)
theorem SaysR.def_ (c : SaysR fa fn K) (i : Nat) {d : He.DefD} (h : fn[i]? = some d := by rfl) : ∃ fd, FunD K d.name d.qual d.params d.body d.scope (d.dvs K) (d.kws K) (He.fAd K d.at_) fd := by
  have c2 := (He.ba (show ((fa.all fun f => f K) && fn.all fun d => d.ok K) = true from congrArg (fun z : He.AlD => z.1) c)).2
  have e : fn.map (fun d => He.fnW K d.at_) = fn.map He.DefD.val := congrArg (fun z : He.AlD => z.2) c
  have e2 : (fn.map fun d => He.fnW K d.at_)[i]? = (fn.map He.DefD.val)[i]? := by rw [e]
  rw [List.getElem?_map, List.getElem?_map, h] at e2
  exact He.DefD.funD (Option.some.inj e2) (List.all_eq_true.mp c2 d (List.mem_of_getElem? h))
end
/-! ### facts -/
def fB (f : He.Fa) : FaB := fun K => f.ok K
def fSys : FaB := fun K => match K.lookup sysModules with
  | some ⟨_, _, .seq _ _, _⟩ => false
  | some _ => true
  | none => false
def fFld (cs : List Str) (f : Str) : FaB := fun K => cs.all fun c => (He.Fa.glo c).ok K && ((He.Fa.cls c).ok K && (He.Fa.noat c f).ok K)
def fMth (c m : Str) : FaB := fun K => (He.Fa.glo c).ok K && ((He.Fa.cls c).ok K && (He.Fa.meth c m).ok K)
def fMk (c : Str) : FaB := fun K => (He.Fa.glo c).ok K && (He.Fa.mkr c).ok K
def fXc (c : Str) : FaB := fun K => (He.Fa.glo c).ok K && (He.Fa.exc c).ok K
def fSub (h : Str) (subs : List (Str × Bool)) : FaB := fun K => (He.Fa.glo h).ok K && subs.all fun p => (He.Fa.glo p.1).ok K && (He.Fa.exm p.1 h p.2).ok K
def fIs (h : Str) (tab : List (Str × Bool)) : FaB := fun K => (He.Fa.glo h).ok K && tab.all fun p => (He.Fa.glo p.1).ok K && ((He.Fa.cls p.1).ok K && (He.eqO (PySem.W.findIn K (.ref (He.ga K p.1)) "__class__") (some (some (.builtin "object.__class__"))) &&
  (He.eqO (PySem.W.specialIn K (.builtin "object.__class__") "__get__") (some (some (.builtin "getset_descriptor.__get__"))) && (decide (PySem.W.takesIn K (.builtin "object.__class__") = some true) && (decide (PySem.W.mroIn K (He.ga K p.1) (.type "object") = some true) &&
  decide (PySem.W.kitOne K (.ref (He.ga K p.1)) (.ref (He.ga K h)) = some p.2))))))
def excB (K : PySem.W.Frag) (D : Addr) : Bool := He.eqO (PySem.W.findIn K (.ref D) "__getattribute__") (some (some (.builtin "BaseException.__getattribute__"))) && (He.eqO (PySem.W.findIn K (.ref D) "__getattr__") (some none) &&
  (decide (PySem.W.subIn K (.ref D) (.type "BaseException") = some true) && (PySem.W.hasDictIn K D && (He.eqO (PySem.W.findIn K (.ref D) "__class__") (some (some (.builtin "object.__class__"))) &&
  (He.eqO (PySem.W.specialIn K (.builtin "object.__class__") "__get__") (some (some (.builtin "getset_descriptor.__get__"))) && (decide (PySem.W.takesIn K (.builtin "object.__class__") = some true) && decide (PySem.W.mroIn K D (.type "object") = some true)))))))
/-- a class by its name: of the text, or built in -/
def uGlo (x : Str) : PySem.W.Frag → Value := fun K => .ref (He.ga K x)
def uTy (t : String) : PySem.W.Frag → Value := fun _ => .type t
def fIsE (u : PySem.W.Frag → Value) (tab : List (Str × Bool)) : FaB := fun K => tab.all fun p => (He.Fa.glo p.1).ok K && (excB K (He.ga K p.1) && decide (PySem.W.kitOne K (.ref (He.ga K p.1)) (u K) = some p.2))
section
variable {K : PySem.W.Frag} {h : Heap} {mg : Str → Option Value} {P : Program} {w : World} {base : Heap}
theorem sys_ok (c : fSys K = true) : SysK K := by
  unfold fSys at c
  cases e : K.lookup sysModules with
  | none => rw [e] at c; cases c
  | some o =>
    rw [e] at c
    refine ⟨o, e, fun its n hd => ?_⟩
    obtain ⟨a1, a2, a3, a4⟩ := o
    simp only at hd
    subst hd
    simp at c
theorem fld_ok (X : K.In h) (G : h.Ns mainGlobals mg) {cs : List Str} {f : Str} (c : fFld cs f K = true) : FldOk K mg f cs := ⟨fun x hx => by
  obtain ⟨c1, c2⟩ := He.ba (List.all_eq_true.mp c x hx)
  obtain ⟨c2, c3⟩ := He.ba c2
  exact ⟨_, He.glo_ok X G c1, He.cls_ok c2, He.noat_ok c3⟩⟩
theorem mth_ok (X : K.In h) (G : h.Ns mainGlobals mg) {c m x qual : Str} {st : Stmt} {k : Nat} {ps : List Str} {L : List Nat} {φ : List D → FR} {fd : FuncData} (c1 : fMth c m K = true) (F : Fun K x qual st (He.fAd K (c, some m)) fd) (hG : FnG P w K mg base k (He.fAd K (c, some m)) fd ps (spF ⟨K, mg⟩ ps.length L φ))
    (b : ∀ (kV doc pm : Value) (an : Option Addr) (cdv ct : Value) (us : List Value), us.length = ps.length → bindArgs (PySem.W.fnOf x qual (defArgs st) (defBody st) (defScope st) .none kV doc pm an cdv ct) ⟨us, []⟩ = pure (ps.zip us)) : MthOk P w K mg base c m k ps L φ := by
  obtain ⟨c1, c2⟩ := He.ba c1
  obtain ⟨c2, c3⟩ := He.ba c2
  exact ⟨_, fd, _, hG, F.binds b, He.glo_ok X G c1, He.cls_ok c2, He.meth_ok c3⟩
theorem mk_ok (X : K.In h) (G : h.Ns mainGlobals mg) {c x qual : Str} {st : Stmt} {k : Nat} {ps : List Str} {φ : List D → FR} {fd : FuncData} (c1 : fMk c K = true) (F : Fun K x qual st (He.fAd K (c, some "__init__")) fd) (hG : FnG P w K mg base k (He.fAd K (c, some "__init__")) fd ps (spF ⟨K, mg⟩ ps.length [0] φ))
    (b : ∀ (kV doc pm : Value) (an : Option Addr) (cdv ct : Value) (us : List Value), us.length = ps.length → bindArgs (PySem.W.fnOf x qual (defArgs st) (defBody st) (defScope st) .none kV doc pm an cdv ct) ⟨us, []⟩ = pure (ps.zip us)) : MkOk P w K mg base c k ps φ := by
  obtain ⟨c1, c2⟩ := He.ba c1
  exact ⟨_, fd, _, hG, F.binds b, He.glo_ok X G c1, He.mkr_ok c2⟩
theorem xc_ok (X : K.In h) (G : h.Ns mainGlobals mg) {c : Str} (c1 : fXc c K = true) : XcOk K mg c := by
  obtain ⟨c1, c2⟩ := He.ba c1
  obtain ⟨h1, h2, h3, h4⟩ := He.exc_ok c2
  exact ⟨_, He.glo_ok X G c1, h1, h2, h3, h4⟩
theorem sub_ok (X : K.In h) (G : h.Ns mainGlobals mg) {x : Str} {subs : List (Str × Bool)} (c : fSub x subs K = true) : SubOk K mg x subs := by
  obtain ⟨c1, c2⟩ := He.ba c
  refine ⟨_, He.glo_ok X G c1, fun y b hy => ?_⟩
  obtain ⟨c3, c4⟩ := He.ba (List.all_eq_true.mp c2 _ hy)
  exact ⟨_, He.glo_ok X G c3, He.exm_ok c4⟩
theorem is_ok (X : K.In h) (G : h.Ns mainGlobals mg) {x : Str} {tab : List (Str × Bool)} (c : fIs x tab K = true) : IsObj K mg x tab := by
  obtain ⟨c1, c2⟩ := He.ba c
  refine ⟨_, He.glo_ok X G c1, fun y b hy => ?_⟩
  obtain ⟨c3, c4⟩ := He.ba (List.all_eq_true.mp c2 _ hy)
  obtain ⟨c4, c5⟩ := He.ba c4
  obtain ⟨c5, c6⟩ := He.ba c5
  obtain ⟨c6, c7⟩ := He.ba c6
  obtain ⟨c7, c8⟩ := He.ba c7
  obtain ⟨c8, c9⟩ := He.ba c8
  exact ⟨_, He.glo_ok X G c3, He.cls_ok c4, He.eqO_ok c5, He.eqO_ok c6, of_decide_eq_true c7, of_decide_eq_true c8, of_decide_eq_true c9⟩
theorem isE_ok (X : K.In h) (G : h.Ns mainGlobals mg) {u : PySem.W.Frag → Value} {tab : List (Str × Bool)} (c : fIsE u tab K = true) : IsExc K mg (u K) tab := by
  refine ⟨fun y b hy => ?_⟩
  obtain ⟨c3, c4⟩ := He.ba (List.all_eq_true.mp c _ hy)
  obtain ⟨e, c9⟩ := He.ba c4
  obtain ⟨e1, e⟩ := He.ba e
  obtain ⟨e2, e⟩ := He.ba e
  obtain ⟨e3, e⟩ := He.ba e
  obtain ⟨e4, e⟩ := He.ba e
  obtain ⟨e5, e⟩ := He.ba e
  obtain ⟨e6, e⟩ := He.ba e
  obtain ⟨e7, e8⟩ := He.ba e
  exact ⟨_, He.glo_ok X G c3, ⟨He.eqO_ok e1, He.eqO_ok e2, of_decide_eq_true e3, e4, He.eqO_ok e5, He.eqO_ok e6, of_decide_eq_true e7, of_decide_eq_true e8⟩, of_decide_eq_true c9⟩
theorem isEG_ok (X : K.In h) (G : h.Ns mainGlobals mg) {x : Str} {tab : List (Str × Bool)} (c0 : (He.Fa.glo x).ok K = true) (c : fIsE (uGlo x) tab K = true) : ∃ D, mg x = some (.ref D) ∧ IsExc K mg (.ref D) tab := ⟨_, He.glo_ok X G c0, isE_ok X G c⟩
end
end RL

/-! RL: sorted(set(xs)), xs a list of ints. -/
namespace RL
open PySem PySem.Spec PyProof.Rows L2
section
variable {P : Program} {w : World} {A : Around} {E : Value → Shared → Prop} {s : Shared}
/-- a new set -/
abbrev oSet (w : World) : Obj := { cls := .type "set", dict := none, data := .set #[] 0 (.fresh 0 0 (!w.params.followText "set-order")) }
abbrev oIt (l : Addr) : Obj := { cls := .type "list_iterator", data := .fields #[.ref l, .int 0 0] }
/-- what the filling has come to -/
def SetIs (w : World) (s : Shared) (ns : List Int) (s2 : Shared) : Prop := ∃ h' tk c, s2 = { s with heap := h', toks := tk } ∧ SetR w h' s.heap.objs.size (fun j => decide (j ∈ ns)) c ∧ c ≤ ns.length ∧ ∀ b o, s.heap.get? b = some o → h'.get? b = some o
/-- what set.__init__ does behind its own check -/
theorem fill {B : Around} {l : Addr} {items : Array Value} {ns : List Int} {R : Result → Shared → Prop} (hh : B.in1.in1.handled = none) (hl : s.heap.IsList l items) (hit : IntsAre items.toList ns) (hb : ns.length + 1 < scanBound)
    (done : ∀ s2, SetIs w s ns s2 → R (.ok (.ret .none)) s2) :
    wpAny (model P w) B.in1 (Builtin.«set.__init__» ⟨[.ref s.heap.objs.size, .ref l], []⟩) (fun fin s' => match fin with | .done f => R (.ok f) s' | .again c' => c'.quiet = true ∧ codeAny (model P w) B c' R s') (fun e s' => R (.error e) s') { s with heap := s.heap.push (oSet w) } := by
  have sz : items.size = ns.length := Array.length_toList.symm.trans hit.length
  have new : (s.heap.push (oSet w)).get? s.heap.objs.size = some (oSet w) := Heap.get?_push_size _ rfl
  obtain ⟨⟨oc, od, dt, osl⟩, at0, cls, n, dat⟩ := hl
  simp only at cls dat
  subst cls dat
  have at1 : (s.heap.push (oSet w)).get? l = some { cls := .type "list", dict := od, data := .seq items n, slots := osl } := Heap.get?_push_of_some _ at0
  have no1 := F.sub_list_set
  have no2 := F.sub_list_frozenset
  have no3 : (Value.type "list" == Value.type "dict") = false := by decide
  have isl : (s.heap.push (oSet w)).IsList l items := ⟨_, at1, rfl, n, rfl⟩
  have lt : l < s.heap.objs.size := Heap.lt_size at0
  have sp : (s.heap.push (oSet w)).objs.size = s.heap.objs.size + 1 := Heap.size_push ..
  unfold Builtin.«set.__init__» noKeywords Builtin.Frozenset.updateFrom
  generalize hk : pyIter = it
  wp_walk
  subst hk
  refine wpAny_pyIter_list isl (wpAny_bind (wpAny_runValue ?_))
  refine set_update_ints ((Walks.list (by first | exact hh | simp [hh]) (s.heap.push (oSet w)).objs.size l (by rw [sp]; exact Nat.ne_of_lt (Nat.lt_succ_of_lt lt)) items).toS) s.heap.objs.size ?nin ns sz hb ?vals (items.size - 0) 0 _ (by omega) (Nat.zero_le _) ⟨⟨_, Heap.get?_push_size _ rfl, rfl, rfl⟩, isl.push _⟩ ?start ?fin
  case nin =>
    rw [sp]
    intro z
    rcases List.mem_cons.mp z with z | z
    · exact absurd z (Nat.ne_of_lt (Nat.lt_succ_self _))
    · exact Nat.ne_of_gt lt (List.mem_singleton.mp z)
  case vals =>
    intro i v hv
    have lti : i < ns.length := sz ▸ (Array.getElem?_eq_some_iff.mp hv).1
    obtain ⟨t, e⟩ := hit.int_at i v (by rw [Array.getElem?_toList]; exact hv)
    rw [List.getD_eq_getElem?_getD, List.getElem?_eq_getElem lti] at e
    exact ⟨ns[i], t, List.getElem?_eq_getElem lti, e⟩
  case start => exact ⟨0, Nat.le_refl 0, setR_new_at (Heap.get?_push_of_some _ new)⟩
  case fin =>
    rintro ⟨h2, g2, d2, k2, o2⟩ c mv le sr
    obtain rfl : g2 = s.gens := mv.gens
    obtain rfl : d2 = s.drawn := mv.drawn
    obtain rfl : o2 = s.os := mv.os
    refine wpAny_pure (wpAny_pure ?_)
    refine done _ ⟨h2, k2, c, rfl, sr, sz ▸ le, fun b o e => ?_⟩
    have lb := Heap.lt_size e
    refine mv.heap b o (fun z => ?_) (Heap.get?_push_of_some _ (Heap.get?_push_of_some _ e))
    rw [sp] at z
    rcases List.mem_cons.mp z with z | z
    · exact Nat.ne_of_lt lb z
    · exact Nat.ne_of_lt (Nat.lt_succ_of_lt lb) (List.mem_singleton.mp z)
/-- set(xs), as sorted wants it -/
theorem set_listI {l : Addr} {items : Array Value} {ns : List Int} {Q : Value → Shared → Prop} (hh : A.handled = none) (hl : s.heap.IsList l items) (hit : IntsAre items.toList ns) (hb : ns.length + 1 < scanBound)
    (h : ∀ s2, SetIs w s ns s2 → Q (.ref s.heap.objs.size) s2) : wpAny (model P w) A (call (.type "set") [.ref l]) Q E s := by
  obtain ⟨c0, tl0, order⟩ := F.called_set.mro
  have how := F.called_set.made
  have su := F.called_set.sub
  have k1 := F.called_set.notType
  have k2 := F.called_set.canCreate
  have k3 := F.typeCall_set_1 (.ref l)
  refine wpAny_call (codeAny_of_tree (show wpAny _ _ (callAny (.type "set") _) _ _ _ from ?_))
  refine wpAny_pure ⟨Code.quiet_builtin _ (by decide +kernel), codeAny_builtin F.entry_type_call ?_⟩
  rw [Around.under_plain (weight_type_call_type "set" [.ref l] []) rfl]
  repeat any_goals (first | assumption | wp_step)
  refine codeAny_mono (code_set_led1 (.ref l) (E := E) (Q₁ := fun v s1 => v = .ref s.heap.objs.size ∧ s1 = { s with heap := s.heap.push (oSet w) }) ⟨rfl, rfl⟩) fun r s1 hr => ?_
  rcases r with e | fl
  · exact hr
  cases fl <;> first | exact hr.elim | skip
  obtain ⟨rfl, rfl⟩ := hr
  have ty : Shared.TypeIs { s with heap := s.heap.push (oSet w) } (.ref s.heap.objs.size) "set" := ⟨_, Heap.get?_push_size _ rfl, rfl⟩
  have j1 := F.called_set.init.lookup
  have j2 := F.called_set.init.bind (.ref s.heap.objs.size)
  repeat any_goals (first | assumption | wp_step)
  refine codeAny_mono (codeAny_call_builtin (R := wants (fun r s2 => r = .none ∧ SetIs w s ns s2) E) F.called_set.init.plain F.entry_set_init (check_set_init_1 ty (fill (by simp [hh]) hl hit hb fun s2 q => ⟨rfl, q⟩))) fun r2 s2 hr2 => ?_
  rcases r2 with e | fl
  · exact hr2
  cases fl <;> first | exact hr2.elim | skip
  obtain ⟨rfl, q⟩ := hr2
  have q' := q
  obtain ⟨h', tk, c, rfl, _⟩ := q'
  repeat any_goals (first | assumption | wp_step)
  exact h _ q
end
section
variable {X : Cx} {W : WX} {a : Expr} {S : Env → Res D} {p p2 q pos : Pos}
def tSortSet (K : PySem.W.Frag) (ta : TE) : TE := fun σ H Q => ta σ H fun x H1 => ∃ (l : Addr) (ns : List Int), x = .ref l ∧ SqL K H1 l (ns.map V.int) ∧ ns.length < 64 ∧
  ∀ (ms : List Int) (b : Addr), ms.Pairwise (· < ·) → (∀ k, k ∈ ms ↔ k ∈ ns) → H1 b = none → Q (.ref b) (upd H1 b (.lst (ms.map V.int)))
theorem pe_sortSet {ta : TE} (hc : X.calm = true) (hg : Gl X "sorted") (hm : X.mg "sorted" = none) (hg2 : Gl X "set") (hm2 : X.mg "set" = none) (ha : PE X a ta)
    (na : starEach [a] X.env = (false, eval a X.env) :: starEach [] X.env := by rfl) : PE X (.Call (.Name "sorted" p) [.Call (.Name "set" p2) [a] [] q] [] pos) (tSortSet X.K ta) := by
  refine ⟨fun pins s σ H Q I h => ?_⟩
  refine Call_ (ld_blt I hg hm PyProof.Rows.boot_sorted (callWith_builtin1 (args_cons ?_ rfl) rfl rfl))
  refine Call_ (ld_blt I hg2 hm2 boot_set (callWith_type1 (args_cons (thn (ha.run pins s σ H _ I h) fun v s1 ⟨x, H1, I1, r1, q1⟩ => args_nil ?_) na) na rfl))
  obtain ⟨l, ns, rfl, hq, h64, q1⟩ := q1
  cases r1
  obtain ⟨its, r, pl, hz⟩ := I1.list hq
  refine set_listI (I1.ok.hd hc) pl.isList (ns := ns) (by simpa using r.ints) (by unfold scanBound; omega) fun s2 ⟨h', tk, c, e, sr, cl, kp⟩ => ?_
  subst e
  refine args_nil ?_
  have I2 : Inv X pins σ H1 { s1 with heap := h', toks := tk } := I1.kept kp
  refine sorted_set sr (I2.ok.hd hc) (by omega) fun z b out cnt ms kp2 gz oz new ob hi asc mem len => ?_
  have few : (ms.map V.int).length ≤ sizeLine := by
    rw [List.length_map, len, sizeLine_eq]
    omega
  have fr2 := I2.hok.fresh new
  obtain ⟨zh, zg, zd, zt, zo⟩ := z
  simp only at gz oz
  subst gz oz
  have J : L2.Inv X pins σ (upd H1 b (.lst (ms.map V.int))) ⟨zh, s1.gens, zd, zt, s1.os⟩ := L2.Inv.call (s := { s1 with heap := h', toks := tk }) (ch := []) I2 (Un.laid kp2 new fr2) (I2.hok.laid kp2 new ⟨few, out.toList, cnt, vals_of_ints hi, ob⟩) I2.bare (fun _ z => nomatch z)
  exact ⟨.ref b, _, J, rfl, q1 ms b asc (fun k => (mem k).trans (by simp)) fr2⟩
/-- the members, rising -/
def insI (n : Int) : List Int → List Int
  | [] => [n]
  | m :: ms => if n < m then n :: m :: ms else if n = m then m :: ms else m :: insI n ms
def sortI : List Int → List Int
  | [] => []
  | n :: ns => insI n (sortI ns)
theorem insI_mem {n k : Int} : ∀ {ms : List Int}, k ∈ insI n ms ↔ k = n ∨ k ∈ ms
  | [] => by simp [insI]
  | m :: ms => by
    unfold insI
    split
    · simp
    · split
      · rename_i e
        subst e
        simp
      · rw [List.mem_cons, insI_mem, List.mem_cons]
        constructor
        · rintro (h | h | h)
          · exact .inr (.inl h)
          · exact .inl h
          · exact .inr (.inr h)
        · rintro (h | h | h)
          · exact .inr (.inl h)
          · exact .inl h
          · exact .inr (.inr h)
theorem insI_up {n : Int} : ∀ {ms : List Int}, ms.Pairwise (· < ·) → (insI n ms).Pairwise (· < ·)
  | [], _ => by simp [insI]
  | m :: ms, h => by
    obtain ⟨h1, h2⟩ := List.pairwise_cons.mp h
    unfold insI
    split
    · rename_i lt
      refine List.pairwise_cons.mpr ⟨fun k hk => ?_, h⟩
      rcases List.mem_cons.mp hk with rfl | hk
      · exact lt
      · exact Int.lt_trans lt (h1 k hk)
    · split
      · exact h
      · rename_i a b
        refine List.pairwise_cons.mpr ⟨fun k hk => ?_, insI_up h2⟩
        rcases insI_mem.mp hk with rfl | hk
        · omega
        · exact h1 k hk
theorem sortI_mem {k : Int} : ∀ {ns : List Int}, k ∈ sortI ns ↔ k ∈ ns
  | [] => by simp [sortI]
  | n :: ns => by rw [sortI, insI_mem, sortI_mem, List.mem_cons]
theorem sortI_up : ∀ ns : List Int, (sortI ns).Pairwise (· < ·)
  | [] => .nil
  | n :: ns => insI_up (sortI_up ns)
theorem up_unique : ∀ {xs ys : List Int}, xs.Pairwise (· < ·) → ys.Pairwise (· < ·) → (∀ k, k ∈ xs ↔ k ∈ ys) → xs = ys
  | [], [], _, _, _ => rfl
  | [], y :: ys, _, _, h => by have := (h y).mpr List.mem_cons_self; simp at this
  | x :: xs, [], _, _, h => by have := (h x).mp List.mem_cons_self; simp at this
  | x :: xs, y :: ys, hx, hy, h => by
    obtain ⟨a1, a2⟩ := List.pairwise_cons.mp hx
    obtain ⟨b1, b2⟩ := List.pairwise_cons.mp hy
    have e : x = y := by
      rcases List.mem_cons.mp ((h x).mp List.mem_cons_self) with e | e
      · exact e
      · rcases List.mem_cons.mp ((h y).mpr List.mem_cons_self) with e2 | e2
        · exact e2.symm
        · have := b1 x e
          have := a1 y e2
          omega
    subst e
    rw [up_unique a2 b2 fun k => ?_]
    constructor
    · intro hk
      rcases List.mem_cons.mp ((h k).mp (List.mem_cons_of_mem _ hk)) with e | e
      · have := a1 k hk
        omega
      · exact e
    · intro hk
      rcases List.mem_cons.mp ((h k).mpr (List.mem_cons_of_mem _ hk)) with e | e
      · have := b1 k hk
        omega
      · exact e
def fSortSet : D → Option D
  | .lst _ ds => (intsD ds).bind fun ns => if ns.length < 64 then some (.lst true ((sortI ns).map .int)) else none
  | _ => none
theorem e_sortSet (hc : X.calm = true) (hm : X.mg "sorted" = none) (hm2 : X.mg "set" = none) (ha : BOk X W a S) (hg : Gl X "sorted" := by rfl) (hg2 : Gl X "set" := by rfl)
    (na : starEach [a] X.env = (false, eval a X.env) :: starEach [] X.env := by rfl) : EOk X W (.Call (.Name "sorted" p) [.Call (.Name "set" p2) [a] [] q] [] pos) (s1 fSortSet S) :=
  ⟨PE.imp (pe_sortSet hc hg hm hg2 hm2 ha.pe na) fun σ H Q ⟨P, ρ, A, st, h⟩ => ⟨P, ρ, A, st, by
    unfold s1 at h
    cases hs : S ρ with
    | bad => simp only [hs, Res.bind] at h
    | exc x => simp only [hs, Res.bind] at h; exact h
    | ok d =>
      simp only [hs, Res.bind] at h
      intro v P1 H1 B1 e1 r o
      cases hf : fSortSet d with
      | none => rw [hf] at h; exact h.elim
      | some z =>
        rw [hf] at h
        have fin : ∀ {l : Addr} {xs : List V} {ds : List D} {B : List Addr}, v = .ref l → SqL X.K H1 l xs → RelL (gd X) P1 H1 xs ds B → ((intsD ds).bind fun ns => if ns.length < 64 then some (D.lst true ((sortI ns).map .int)) else none) = some z →
            ∃ (l : Addr) (ns : List Int), v = .ref l ∧ SqL X.K H1 l (ns.map V.int) ∧ ns.length < 64 ∧ ∀ (ms : List Int) (b : Addr), ms.Pairwise (· < ·) → (∀ k, k ∈ ms ↔ k ∈ ns) → H1 b = none → Q (.ref b) (upd H1 b (.lst (ms.map V.int))) := by
          intro l xs ds B ev hq rl hz
          cases hi : intsD ds with
          | none => rw [hi] at hz; cases hz
          | some ns =>
            rw [hi] at hz
            simp only [Option.bind_some] at hz
            split at hz
            · rename_i few
              cases hz
              have ex := ints_of_rel rl hi
              subst ex
              refine ⟨l, ns, ev, hq, few, fun ms b up mem hb => ?_⟩
              have em : ms = sortI ns := up_unique up (sortI_up ns) fun k => (mem k).trans sortI_mem.symm
              subst em
              exact post_lst e1.und (Post.ext h st.und e1) (ints_rel _) hb
            · cases hz
        cases r with
        | lstF hP rl => exact fin rfl (SqL.of (e1.und.lst hP)) rl hf
        | lstO hH rl => exact fin rfl (SqL.of hH) rl hf
        | _ => simp [fSortSet] at hf⟩⟩
end
end RL

/-! RL: what names own goes into a display; dicts asked by get. -/
namespace RL
open PySem PySem.Spec PyProof.Rows L2
theorem Ext.weak {P H P' H' : Hp} {A : List Addr} (e : Ext P H P' H' []) : Ext P H P' H' A := ⟨e.same, e.und, fun b o h n _ => e.keep b o h n (by simp), e.lck, fun b o h => (e.new b o h).imp id fun z => z.imp id fun w => by simp at w⟩
def tLMv (G : Gd) (W : WX) (S : Env → Res (List D × Env)) : TA := fun σ H Q => ∃ P ρ A, StRel G P H σ ρ A ∧ match S ρ with
  | .ok r => ∀ vs P' H' B A', Ext P H P' H' [] → RelL G P' H' vs r.1 B → StRel G P' H' σ r.2 A' → (∀ b ∈ A', b ∈ A) → (B ++ A').Nodup → (∀ b ∈ B, P' b = none ∧ (H b = none ∨ b ∈ A)) → Q vs H'
  | .exc x => PostX G P H W σ x
  | .bad => False
structure AMk (X : Cx) (W : WX) (es : List Expr) (S : Env → Res (List D × Env)) : Prop where pa : PA X es (tLMv (gd X) W S)
def sMNil : Env → Res (List D × Env) := fun ρ => .ok ([], ρ)
def sMConsE (S : Env → Res D) (T : Env → Res (List D × Env)) : Env → Res (List D × Env) := fun ρ => (S ρ).bind fun d => (T ρ).bind fun r => .ok (d :: r.1, r.2)
def sMConsN (i : Nat) (T : Env → Res (List D × Env)) : Env → Res (List D × Env) := fun ρ => match ρ[i]? with
  | some (some d) => (T (ρ.set i none)).bind fun r => .ok (d :: r.1, r.2)
  | _ => .bad
section
variable {X : Cx} {W : WX} {L : List Nat} {e : Expr} {es : List Expr} {pos : Pos} {S : Env → Res D} {T : Env → Res (List D × Env)}
theorem mv_nil : AMk X W [] sMNil := ⟨PA.imp pa_nil fun σ H Q ⟨P, ρ, A, st, q⟩ => q [] P H [] A (Ext.refl st.und) .nil st (fun _ h => h) (by simpa using st.nd) fun b hb => by simp at hb⟩
theorem mv_e (h : EOk X W e S) (t : AMk X W es T) (hs : starEach (e :: es) X.env = (false, eval e X.env) :: starEach es X.env := by rfl) : AMk X W (e :: es) (sMConsE S T) := ⟨PA.imp (pa_cons h.pe t.pa hs) fun σ H Q ⟨P, ρ, A, st, q⟩ => ⟨P, ρ, A, st, by
  unfold sMConsE at q
  cases hS : S ρ with
  | bad => simp only [hS, Res.bind] at q
  | exc x => simp only [hS, Res.bind] at q; exact q
  | ok d =>
    simp only [hS, Res.bind] at q
    intro v P1 H1 B1 e1 r1 f1
    refine ⟨P1, ρ, A, st.ext e1, ?_⟩
    cases hT : T ρ with
    | bad => simp only [hT] at q
    | exc x => simp only [hT] at q; exact PostX.ext q st.und e1
    | ok z =>
      simp only [hT] at q
      intro vs P2 H2 B2 A2 e2 r2 st2 sub nd off
      have o1 : ∀ b ∈ B1, P1 b = none := fun b hb => (f1.2 b hb).2
      have notA : ∀ b ∈ B1, b ∉ A := fun b hb z => by
        obtain ⟨o, ho⟩ := st.env.at b z
        rw [(f1.2 b hb).1] at ho; cases ho
      obtain ⟨n1, n2, n3⟩ := List.nodup_append.mp nd
      refine q _ P2 H2 (B1 ++ B2) A2 (e1.trans st.und e2) (.cons (r1.ext e2 o1) r2) st2 sub ?_ fun b hb => ?_
      · rw [List.append_assoc]
        refine List.nodup_append.mpr ⟨f1.1, nd, fun x hx y hy e => ?_⟩
        subst e
        rcases List.mem_append.mp hy with hy | hy
        · rcases (off x hy).2 with z | z
          · obtain ⟨o, ho⟩ := r1.at x hx
            rw [z] at ho; cases ho
          · exact notA x hx z
        · exact notA x hx (sub x hy)
      · rcases List.mem_append.mp hb with hb | hb
        · exact ⟨(e2.own r1.at o1).2 b hb, .inl (f1.2 b hb).1⟩
        · exact ⟨(off b hb).1, (off b hb).2.imp (fun z => e1.free st.und z) id⟩⟩⟩
theorem mv_n (i : Nat) {x : Str} {p : Pos} (t : AMk X W es T) (hs : starEach ((.Name x p) :: es) X.env = (false, eval (.Name x p) X.env) :: starEach es X.env := by rfl) (hN : X.N[i]? = some x := by rfl) (hv : Vis X.env.scope x := by first | exact Or.inl rfl | exact Or.inr (Or.inl rfl) | exact Or.inr (Or.inr rfl)) (hd : (x == ("__debug__" : Str)) = false := by decide)
    (hcd : (x == ("__classdict__" : Str)) = false := by decide) : AMk X W (.Name x p :: es) (sMConsN i T) := ⟨PA.imp (pa_cons (pe_var hN hv hd hcd) t.pa hs) fun σ H Q ⟨P, ρ, A, st, q⟩ => by
  unfold sMConsN at q
  cases hi : ρ[i]? with
  | none => simp only [hi] at q
  | some o =>
    cases o with
    | none => simp only [hi] at q
    | some d =>
      simp only [hi] at q
      have hl : i < ρ.length := (List.getElem?_eq_some_iff.mp hi).1
      obtain ⟨B, C, pm, qc, hv⟩ := st.env.out hl
      rcases hv with ⟨d', v, h1, h2, r⟩ | ⟨h1, _⟩
      · rw [hi] at h1
        cases h1
        have cA : ∀ b ∈ C, b ∈ A := fun b hb => pm.symm.subset (List.mem_append_right _ hb)
        have bA : ∀ b ∈ B, b ∈ A := fun b hb => pm.symm.subset (List.mem_append_left _ hb)
        obtain ⟨n1, n2, n3⟩ := List.nodup_append.mp (pm.nodup_iff.mp st.nd)
        refine ⟨v, h2, P, ρ.set i none, C, ⟨st.und, qc, n2, fun b hb => st.off b (cA b hb), st.mks⟩, ?_⟩
        cases hT : T (ρ.set i none) with
        | bad => simp only [hT, Res.bind] at q
        | exc x => simp only [hT, Res.bind] at q; exact q
        | ok z =>
          simp only [hT, Res.bind] at q
          intro vs P2 H2 B2 A2 e2 r2 st2 sub nd off
          have o1 : ∀ b ∈ B, P b = none := fun b hb => st.off b (bA b hb)
          refine q _ P2 H2 (B ++ B2) A2 e2 (.cons (r.ext e2 o1) r2) st2 (fun b hb => cA b (sub b hb)) ?_ fun b hb => ?_
          · rw [List.append_assoc]
            refine List.nodup_append.mpr ⟨n1, nd, fun x hx y hy e => ?_⟩
            subst e
            rcases List.mem_append.mp hy with hy | hy
            · rcases (off x hy).2 with z | z
              · obtain ⟨o, ho⟩ := r.at x hx
                rw [z] at ho; cases ho
              · exact n3 x hx x z rfl
            · exact n3 x hx x (sub x hy) rfl
          · rcases List.mem_append.mp hb with hb | hb
            · exact ⟨(e2.own r.at o1).2 b hb, .inr (bA b hb)⟩
            · exact ⟨(off b hb).1, (off b hb).2.imp id (cA b)⟩
      · rw [hi] at h1; cases h1⟩
/-- return (..): what names own goes to the caller -/
def sRetTM (T : Env → Res (List D × Env)) : Env → SRes := fun ρ => match T ρ with
  | .ok r => if r.1.length ≤ sizeLine then .rt (.tup r.1) r.2 else .bad
  | .exc x => .exc x ρ
  | .bad => .bad
theorem s_retTM {k : Nat} {tp : Pos} (h : AMk X W es T) : SOk X W L (.Return (some (.Tuple es k tp)) pos) (sRetTM T) := ⟨PS.imp (ps_ret (pe_tup h.pa)) fun D σ H ⟨P, ρ, A, st, q⟩ => ⟨P, ρ, A, st, by
  unfold sRetTM at q
  cases hT : T ρ with
  | bad => simp only [hT] at q
  | exc x => simp only [hT] at q; exact PostX.stmt st q
  | ok z =>
    simp only [hT] at q
    intro vs P1 H1 B A1 e1 r st1 sub nd off
    by_cases hz : z.1.length ≤ sizeLine
    · rw [if_pos hz] at q
      refine ⟨by rw [r.length]; exact hz, fun p hp => ?_⟩
      have e2 := ext_fix (o := .tup vs) e1.und hp
      have o1 : ∀ b ∈ B, P1 b = none := fun b hb => (off b hb).1
      exact q (.ref p) σ _ _ A1 B ⟨(e1.trans st.und e2).weak, st1.ext e2, fun b hb => .inr (sub b hb), rfl, fun _ _ => rfl⟩ (.tup (SqT.of upd_same) (r.ext e2 o1)) nd fun b hb => ⟨(e2.own r.at o1).2 b hb, (off b hb).2⟩
    · rw [if_neg hz] at q; exact q.elim⟩⟩
/-! ### a list's items changed in turn -/
theorem Ext.ownA {P H P' H' : Hp} {A R : List Addr} (e : Ext P H P' H' A) (ha : ∀ b ∈ R, ∃ o, H b = some o) (hp : ∀ b ∈ R, P b = none) (hn : ∀ b ∈ R, b ∉ A) : (∀ b ∈ R, H' b = H b) ∧ ∀ b ∈ R, P' b = none := by
  refine ⟨fun b hb => ?_, fun b hb => ?_⟩
  · obtain ⟨o, q⟩ := ha b hb
    rw [q, e.keep b o q (hp b hb) (hn b hb)]
  · cases q : P' b with
    | none => rfl
    | some w =>
      obtain ⟨o, r⟩ := ha b hb
      rcases e.new b w q with z | z | z
      · rw [hp b hb] at z; cases z
      · rw [r] at z; cases z
      · exact absurd z (hn b hb)
theorem RelL.dropN {G : Gd} {P H : Hp} : ∀ {j : Nat} {vs : List V} {ds : List D} {A : List Addr} {d : D} {es : List D}, RelL G P H (vs.drop j) (ds.drop j) A → ds.drop j = d :: es → ∃ v B C, vs[j]? = some v ∧ A = B ++ C ∧ Rel G P H v d B ∧ RelL G P H (vs.drop (j + 1)) es C
  | j, vs, ds, A, d, es, r, e => by
    rw [e] at r
    generalize hv : vs.drop j = ws at r
    cases r with
    | @cons v _ B vs' _ C r1 r2 =>
      refine ⟨v, B, C, ?_, rfl, r1, ?_⟩
      · have := congrArg (fun l => l[0]?) hv
        simpa using this
      · have := congrArg (fun l => l.drop 1) hv
        simp at this
        rw [this]
        exact r2
def sForMv (i : Nat) (t : Tg) (S : Env → SRes) : Env → SRes := fun ρ => match ρ[i]? with
  | some (some (.lst true ds)) => forRun t S ds (ρ.set i none)
  | _ => .bad
theorem s_forMv (i : Nat) {x : Str} {p : Pos} {tg : Expr} {t : Tg} {S : Env → SRes} {body : List Stmt} (hp : PassesOwn (model X.prog X.w) X.A X.env X.xe) (hc : X.calm = true) (hg : GOk X tg t) (hb : SsOk X W L body S) (hL : ∀ j ∈ L, j ∉ t.slots := by decide)
    (hs : ∀ z, foldedSetIterable (.Name x p) X.env z = pure z := by intro _; rfl) (hN : X.N[i]? = some x := by rfl) (hv : Vis X.env.scope x := by first | exact Or.inl rfl | exact Or.inr (Or.inl rfl) | exact Or.inr (Or.inr rfl)) (hd : (x == ("__debug__" : Str)) = false := by decide)
    (hcd : (x == ("__classdict__" : Str)) = false := by decide) : SOk X W L (.For tg (.Name x p) body [] pos) (sForMv i t S) :=
  ⟨PS.imp (ps_for hp hc (pi_list (pe_var hN hv hd hcd)) hg.pg hb.pss hs) fun D σ H ⟨P, ρ, A, st, h⟩ => by
    unfold sForMv at h
    cases hi : ρ[i]? with
    | none => simp only [hi] at h
    | some o =>
      cases o with
      | none => simp only [hi] at h
      | some dd =>
        cases dd with
        | lst ob ds =>
          cases ob with
          | false => simp only [hi] at h
          | true =>
            simp only [hi] at h
            have hl : i < ρ.length := (List.getElem?_eq_some_iff.mp hi).1
            obtain ⟨B, C, pm, qc, hv⟩ := st.env.out hl
            rcases hv with ⟨d', v, h1, h2, r⟩ | ⟨h1, _⟩
            · rw [hi] at h1
              cases h1
              cases r with
              | @lstO a xs ds R hH rl =>
                refine ⟨.ref a, h2, a, rfl, ⟨xs, SqL.of hH⟩, ?_⟩
                have n0 := pm.nodup_iff.mp st.nd
                have inA : ∀ b ∈ a :: R, b ∈ A := fun b hb => pm.symm.subset (List.mem_append_left _ hb)
                have cA : ∀ b ∈ C, b ∈ A := fun b hb => pm.symm.subset (List.mem_append_right _ hb)
                have st0 : StRel (gd X) P H σ (ρ.set i none) C := ⟨st.und, qc, (List.nodup_append.mp n0).2.1, fun b hb => st.off b (cA b hb), st.mks⟩
                let Iv : Nat → Sl → Hp → Prop := fun j σc Hc => j ≤ ds.length ∧ ∃ Pc ρc Ac Rc, After (gd X) P H σ A L Pc Hc σc ρc Ac ∧ Hc a = some (.lst xs) ∧ RelL (gd X) Pc Hc (xs.drop j) (ds.drop j) Rc ∧ ((a :: Rc) ++ Ac).Nodup ∧ (∀ b ∈ a :: Rc, Pc b = none) ∧ (∀ b ∈ Rc, b ∈ A) ∧ forRun t S (ds.drop j) ρc = forRun t S ds (ρ.set i none)
                refine ⟨fun j m σc Hc => m = ds.length - j ∧ Iv j σc Hc, ⟨ds.length, by simp, Nat.zero_le _, P, ρ.set i none, C, R, ⟨Ext.refl st.und, st0, fun b hb => .inr (cA b hb), rfl, fun _ _ => rfl⟩, hH, rl, n0, fun b hb => st.off b (inA b hb), fun b hb => inA b (List.mem_cons_of_mem _ hb), rfl⟩, ?_⟩
                rintro j m σc Hc ⟨rfl, hj, Pc, ρc, Ac, Rc, ac, ha, rc, nc, oc, ic, hr⟩
                have uc := ac.st.und
                by_cases hlt : j < ds.length
                · right
                  have hdrop : ds.drop j = ds[j] :: ds.drop (j + 1) := List.drop_eq_getElem_cons hlt
                  obtain ⟨v, B1, C1, hv, rfl, r1, r2⟩ := rc.dropN hdrop
                  generalize ds[j] = d at hdrop r1
                  refine ⟨⟨xs, v, SqL.of ha, hv⟩, Iv (j + 1), fun σ' H' q => ⟨ds.length - (j + 1), by omega, rfl, q⟩, fun y H' hy => ?_⟩
                  obtain ⟨e, yq⟩ := hy
                  subst e
                  have := yq xs (SqL.of ha)
                  rw [hv] at this
                  cases this
                  rw [← hr] at h
                  rw [hdrop] at h hr
                  simp only [forRun] at h
                  obtain ⟨n1, n2, n3⟩ := List.nodup_append.mp nc
                  obtain ⟨m1, m2⟩ := List.nodup_cons.mp n1
                  obtain ⟨k1, k2, k3⟩ := List.nodup_append.mp m2
                  refine ⟨Pc, ρc, Ac, d, B1, ac.st, r1, List.nodup_append.mpr ⟨k1, n2, fun x hx y hy => n3 x (List.mem_cons_of_mem _ (List.mem_append_left _ hx)) y hy⟩, fun b hb => oc b (List.mem_cons_of_mem _ (List.mem_append_left _ hb)), ?_⟩
                  cases ht : t.set d ρc with
                  | none => simp only [ht] at h
                  | some ρ1 =>
                    simp only [ht] at h
                    intro σ1 A1 st1 sub len pin
                    have a4 : After (gd X) P H σ A L Pc H' σ1 ρ1 A1 := ⟨ac.ext, st1, fun b hb => (List.mem_append.mp (sub b hb)).elim (fun z => .inr (ic b (List.mem_append_left _ z))) (ac.sub b), len.trans ac.len, fun j hj => (pin j (hL j hj)).trans (ac.pin j hj)⟩
                    refine ⟨Pc, ρ1, A1, st1, ?_⟩
                    cases hS : S ρ1 with
                    | bad => simp only [hS] at h
                    | nx ρ2 =>
                      simp only [hS] at h
                      intro σ' P' H2 A' b
                      have offA : ∀ z ∈ a :: C1, z ∉ A1 := fun z hz w => by
                        rcases List.mem_append.mp (sub z w) with w | w
                        · rcases List.mem_cons.mp hz with rfl | hz
                          · exact m1 (List.mem_append_left _ w)
                          · exact k3 z w z hz rfl
                        · rcases List.mem_cons.mp hz with rfl | hz
                          · exact n3 z List.mem_cons_self z w rfl
                          · exact n3 z (List.mem_cons_of_mem _ (List.mem_append_right _ hz)) z w rfl
                      have there : ∀ z ∈ a :: C1, ∃ o, H' z = some o := fun z hz => by
                        rcases List.mem_cons.mp hz with rfl | hz
                        · exact ⟨_, ha⟩
                        · exact r2.at z hz
                      have pn : ∀ z ∈ a :: C1, Pc z = none := fun z hz => by
                        rcases List.mem_cons.mp hz with rfl | hz
                        · exact oc z List.mem_cons_self
                        · exact oc z (List.mem_cons_of_mem _ (List.mem_append_right _ hz))
                      obtain ⟨g1, g2⟩ := b.ext.ownA there pn offA
                      refine ⟨hlt, P', ρ2, A', C1, a4.trans st.und b, ?_, r2.mono b.ext.same fun z hz => g1 z (List.mem_cons_of_mem _ hz), ?_, g2, fun z hz => ic z (List.mem_append_right _ hz), ?_⟩
                      · rw [g1 a List.mem_cons_self]; exact ha
                      · refine List.nodup_append.mpr ⟨List.nodup_cons.mpr ⟨fun z => m1 (List.mem_append_right _ z), k2⟩, b.st.nd, fun u hu w hw e => ?_⟩
                        subst e
                        rcases b.sub u hw with z | z
                        · obtain ⟨o, q⟩ := there u hu
                          rw [z] at q; cases q
                        · exact offA u hu z
                      · rw [← hr]
                        simp only [forRun, ht, hS]
                    | bk ρ2 => simp only [hS] at h; exact fun σ' P' H2 A' b => h _ _ _ _ (a4.trans st.und b)
                    | rt dv ρ2 => simp only [hS] at h; exact fun v σ' P' H2 A' B b q1 q2 q3 => h v _ _ _ _ B (a4.trans st.und b) q1 q2 (a4.newB st.und q3)
                    | exc x ρ2 => simp only [hS] at h; exact fun cls dx σ' P' H2 A' b q => h cls dx _ _ _ _ (a4.trans st.und b) q
                · left
                  have e : j = ds.length := by omega
                  subst e
                  refine ⟨⟨xs, SqL.of ha, by rw [rl.length]; exact Nat.le_refl _⟩, ?_⟩
                  rw [← hr, List.drop_length] at h
                  exact h σc Pc Hc Ac ac
            · rw [hi] at h1; cases h1
        | _ => simp only [hi] at h⟩
end
end RL

/-! RL: d.get(k), lists asked, max of a list. -/
namespace RL
open PySem PySem.Spec PyProof.Rows L2
section
variable {X : Cx} {W : WX} {L : List Nat} {e a b o f : Expr} {pos apos cpos : Pos} {Sa Sb S So : Env → Res D} {k : Nat}
def getD1 (d y : D) : Option D := match d with
  | .dct _ ks ds => (keyOf y).bind fun k => if cleanL ds = true then some ((lookD ks ds k).getD .non) else none
  | _ => none
def isDct : D → Bool
  | .dct _ _ _ => true
  | _ => false
def sGet1 (So Sk : Env → Res D) : Env → Res D := fun ρ => (So ρ).bind fun x => if isDct x = true then (Sk ρ).bind fun y => opt (getD1 x y) else .bad
theorem lookD_mem : ∀ {ks : List Key} {ds : List D} {k : Key} {d : D}, lookD ks ds k = some d → d ∈ ds
  | [], _, _, _, h => by simp [lookD] at h
  | _ :: _, [], _, _, h => by simp [lookD] at h
  | g :: ks, x :: ds, k, d, h => by
    simp only [lookD] at h
    split at h
    · cases h; exact List.mem_cons_self
    · exact List.mem_cons_of_mem _ (lookD_mem h)
theorem clean_mem : ∀ {ds : List D} {d : D}, cleanL ds = true → d ∈ ds → d.clean = true
  | [], _, _, h => by simp at h
  | x :: ds, d, c, h => by
    simp only [cleanL, Bool.and_eq_true] at c
    rcases List.mem_cons.mp h with rfl | h
    · exact c.1
    · exact clean_mem c.2 h
theorem e_get1 (hu : X.A.units + 1 < cLine) (ho : BOk X W o So) (he : BOk X W e Sa) (hbase : attributeBase o "get" X.env (eval o X.env) = eval o X.env := by rfl)
    (hfew : ((backTo cpos (starEach [e] X.env)).all (fun x => !x.1) && (backToKw cpos (keywordEach [] X.env)).all (fun x => x.1.isSome) && decide (([e] : List Expr).length + ([] : List Keyword).length + (if ([] : List Keyword).isEmpty then 0 else 1) < 30)) = true := by rfl)
    (hline : (apos.endLine == cpos.line) = true := by rfl) (htr : backTo cpos (starEach [e] X.env) = [(false, eval e X.env)] := by rfl) : EOk X W (.Call (.Attribute o "get" apos) [e] [] cpos) (sGet1 So Sa) :=
  ⟨PE.imp (pe_dget1 hu ho.pe he.pe ⟨hbase, hfew, hline, htr⟩) fun σ H Q ⟨P, ρ, A, st, h⟩ => ⟨P, ρ, A, st, by
    unfold sGet1 at h
    cases hs : So ρ with
    | bad => simp only [hs, Res.bind] at h
    | exc x => simp only [hs, Res.bind] at h; exact h
    | ok d =>
      simp only [hs, Res.bind] at h
      intro v P1 H1 B1 e1 r1 o1
      cases d with
      | dct ob ks ds =>
        simp only [isDct, if_true] at h
        obtain ⟨ad, vs, B0, rfl, hd0, hl0, rl0, _⟩ := dget_of e1.und r1
        refine ⟨ad, rfl, .inl ⟨_, hd0⟩, P1, ρ, A, st.ext e1, ?_⟩
        cases hb : Sa ρ with
        | bad => simp only [hb] at h
        | exc x => simp only [hb] at h; exact PostX.ext h st.und e1
        | ok dy =>
          simp only [hb] at h
          intro v2 P2 H2 B2 e2 r2 o2
          have r1' := r1.ext e2 o1
          obtain ⟨ad2, vs2, B, ea, hdk, hl, rl, hB⟩ := dget_of e2.und r1'
          cases ea
          cases hk : RL.keyOf dy with
          | none => simp only [getD1, hk, Option.bind, opt] at h
          | some key =>
            simp only [getD1, hk, Option.bind] at h
            by_cases c : cleanL ds = true
            · simp only [c, if_true, opt] at h
              have ev := key_rel r2 hk
              refine ⟨valV (ks.zip vs2) key, .inl ⟨_, key, hdk, ev, rfl⟩, ?_⟩
              cases hlk : lookD ks ds key with
              | none =>
                rw [hlk] at h
                rw [lookD_none rl hl hlk]
                exact Post.ext h st.und (e1.trans st.und e2) .non P2 H2 [] (Ext.refl e2.und) .non Fresh.nil
              | some dv =>
                rw [hlk] at h
                obtain ⟨w, C, hw, rw', hC⟩ := lookD_rel rl hl hlk
                rw [hw]
                have ec := rw'.clean (clean_mem c (lookD_mem hlk))
                subst ec
                exact Post.ext h st.und (e1.trans st.und e2) w P2 H2 [] (Ext.refl e2.und) rw' Fresh.nil
            · simp only [c, Bool.false_eq_true, if_false, opt] at h
      | _ => simp [isDct] at h⟩⟩
end
end RL

/-! RL: tuple(d.values()), list(d.values()). -/
namespace RL
open PySem PySem.Spec PyProof.Rows L2
section
variable {P : Program} {w : World} {A : Around} {E : Value → Shared → Prop} {s : Shared} {T : String} {r d : Addr} {n : Nat} {Pv : Nat → Value → Prop} {OK : Heap → Prop}
theorem tup_new {Q : Value → Shared → Prop} (K : PySem.W.KdlSrc P w T r d n Pv OK) (hh : A.in1.handled = none) (hok : OK s.heap) (hn : n ≤ sizeLine) (nt : (Value.type T == Value.type "tuple") = false)
    (h : ∀ (h' : Heap) (tk : Nat) (acc : Array Value), (∀ b o, s.heap.get? b = some o → h'.get? b = some o) → ItemsOf Pv acc n → Q (.ref h'.objs.size) { s with heap := h'.push { cls := .type "tuple", data := .seq acc }, toks := tk }) :
    codeAny (model P w) A (.call (.builtin "tuple.__new__") ⟨[.type "tuple", .ref r], []⟩) (wants Q E) s := by
  have ty := K.type s hok
  refine codeAny_of_tree (show wpAny _ A.in1 (do checkBuiltinCall "tuple.__new__" ⟨[.type "tuple", .ref r], []⟩; again (.builtin "tuple.__new__" ⟨[.type "tuple", .ref r], []⟩)) _ _ s from ?_)
  refine wpAny_bind (wpAny_of_eq (F.newCall_tuple_1 _) (wpAny_pure ⟨plainId_quiet F.plain_tuple_new _, codeAny_builtin F.entry_tuple_new ?_⟩))
  rw [Around.under_plainId F.plain_tuple_new _]
  have u1 := sub_tuple_self
  have u2 := init_tuple_lookup
  have u3 := madeHere_tuple
  wp_walk using wpAny_typeOf ty, PySem.W.kdu_collect K hh hok hn
  intro h' tk acc kp it
  show wpAny _ _ (Builtin.Tuple.tupleExact acc.toList.toArray >>= fun v => ret v) _ _ _
  rw [Array.toArray_toList]
  unfold Builtin.Tuple.tupleExact
  exact wpAny_bind (wpAny_newObj_type (wpAny_pure (h h' tk acc kp it)) (by show acc.size ≤ sizeLine; rw [it.1]; exact hn))
end
theorem tup_call {P : Program} {w : World} {A : Around} {E : Value → Shared → Prop} {s : Shared} {T : String} {r d : Addr} {n : Nat} {Pv : Nat → Value → Prop} {OK : Heap → Prop} {Q : Value → Shared → Prop} (K : PySem.W.KdlSrc P w T r d n Pv OK) (hh : A.handled = none) (hok : OK s.heap) (hn : n ≤ sizeLine)
    (h : ∀ (h' : Heap) (tk : Nat) (acc : Array Value), (∀ b o, s.heap.get? b = some o → h'.get? b = some o) → ItemsOf Pv acc n → Q (.ref h'.objs.size) { s with heap := h'.push { cls := .type "tuple", data := .seq acc }, toks := tk }) :
    wpAny (model P w) A (call (.type "tuple") [.ref r]) Q E s := by
  have made := tup_new (A := A.in1) (E := E) (Q := fun v s2 => s2.TypeIs v "tuple" ∧ Q v s2) K (by simp [hh]) hok hn K.notTuple fun h' tk acc kp it => ⟨⟨_, Heap.get?_push_size _ rfl, rfl⟩, h h' tk acc kp it⟩
  exact callType_codes F.called_tuple (F.typeCall_tuple_1 _) F.entry_object_init made fun v s2 q => ⟨q.1, F.args_object_init_2 v _, object_init_meets F.called_tuple.init.lookup F.called_tuple.made (by decide) P w A.in1 _ s2 ⟨q.1, rfl, q.2⟩⟩
theorem kv_vals : ∀ {kvs : List (Key × V)} {vs : List (Key × Value)}, KV kvs vs → Vals (kvs.map (·.2)) (vs.map (·.2))
  | _, _, .nil => .nil
  | _, _, .cons h t => .cons h.2 (kv_vals t)
theorem acc_eq {vs : List (Key × Value)} {acc : Array Value} (h : ItemsOf (fun i v => ∃ k, vs[i]? = some (k, v)) acc vs.length) : acc.toList = vs.map (·.2) := by
  apply List.ext_getElem?
  intro i
  rw [Array.getElem?_toList, List.getElem?_map]
  cases e : acc[i]? with
  | some v =>
    obtain ⟨k, hk⟩ := h.2 i v e
    rw [hk]
    rfl
  | none =>
    have := Array.getElem?_eq_none_iff.mp e
    rw [List.getElem?_eq_none (by have := h.1; omega)]
    rfl
section
variable {X : Cx} {W : WX} {e : Expr} {S : Env → Res D} {p apos cpos pos : Pos}
def tTupVals (td : TE) : TE := fun σ H Q => td σ H fun x H1 => ∃ a kvs, x = .ref a ∧ Rd H1 a (.dK kvs) ∧ ∀ b, H1 b = none → Q (.ref b) (upd H1 b (.tup (kvs.map (·.2))))
theorem pe_tupVals {td : TE} (hc : X.calm = true) (hg : Gl X "tuple") (hm : X.mg "tuple" = none) (he : PE X e td) (hbase : attributeBase e "values" X.env (eval e X.env) = eval e X.env := by rfl) (hline : (apos.endLine == cpos.line) = true := by rfl)
    (na : starEach [.Call (.Attribute e "values" apos) [] [] cpos] X.env = (false, eval (.Call (.Attribute e "values" apos) [] [] cpos) X.env) :: starEach [] X.env := by rfl) : PE X (.Call (.Name "tuple" p) [.Call (.Attribute e "values" apos) [] [] cpos] [] pos) (tTupVals td) := by
  refine ⟨fun pins s σ H Q I h => ?_⟩
  refine Call_ (ld_blt I hg hm PyProof.Rows.boot_tuple (callWith_type1 (args_cons ?_ na) na rfl))
  refine wpAny_Call_method (T := "dict") (id := "dict.values") hbase rfl hline F.plainAttrs_dict F.slot_dict_values F.type_dict_values (thn (he.run pins s σ H _ I h) fun u s1 ⟨x, H1, I1, rx, a, kvs, ex, hd, q⟩ => ?_)
  subst ex
  obtain rfl : u = Value.ref a := rx
  obtain ⟨hz, hs, vs, kv, dd⟩ := dk_rd I1.hok hd
  refine ⟨dd.typeIs, dd.mapOf.noDict, ?_⟩
  refine method_meetsIn F.slot_dict_values F.entry_dict_values rfl (PySem.evalArgs_none ⟨rfl, dd.typeIs, F.args_dict_values_1 _, _, meets_dict_values (mixKind X.prog X.w) a hs, ⟨vs, dd⟩, ?_⟩)
  refine args_nil ?_
  obtain ⟨o, es, ep, o1, o2, o3, o4, o5, o6⟩ := dd
  have at0 : s1.heap.DictAt (mixKind X.prog X.w) a vs ep := ⟨o, es, o1, o2, o3, o4, o5, o6⟩
  have hl : kvs.length = vs.length := Paired.length kv
  have vw : (s1.heap.push { cls := .type "dict_values", data := .fields #[.ref a] }).get? s1.heap.objs.size = some { cls := .type "dict_values", data := .fields #[.ref a] } := Heap.get?_push_size _ rfl
  refine tup_call (PySem.W.kdl_values (knd := mixKind X.prog X.w) (kvs := vs) (ep := ep) (r := s1.heap.objs.size) (d := a)) (I1.ok.hd hc) ⟨⟨_, vw, rfl, rfl⟩, at0.push _⟩ (by omega) fun h' tk acc kp it => ?_
  have ea := acc_eq it
  have I2 : L2.Inv X pins σ H1 { s1 with heap := h' } := I1.kept (t' := s1.toks) fun b ob z => kp b ob (Heap.get?_push_of_some _ z)
  have rv := kv_vals kv
  rw [← ea] at rv
  have I3 : L2.Inv X pins σ (upd H1 h'.objs.size (.tup (kvs.map (·.2)))) { s1 with heap := h'.push { cls := .type "tuple", data := .seq acc }, toks := tk } :=
    I2.laid (t' := tk) (fun b ob z => Heap.get?_push_of_some _ z) (Nat.le_refl _) (show ObjOk X.prog X.w _ _ _ (.tup (kvs.map (·.2))) from ⟨by rw [List.length_map]; exact hz, acc.toList, rv, by rw [Array.toArray_toList]; exact IsTup.new _ _⟩)
  exact ⟨.ref h'.objs.size, _, I3, rfl, q _ (I2.hok.fresh (Nat.le_refl _))⟩
/-- tuple(d.values()) -/
def fTupV : D → Option D
  | .dct _ ks ds => if cleanL ds = true then some (.tup ds) else none
  | _ => none
theorem zip_snd {ks : List Key} {vs : List V} (h : ks.length = vs.length) : (ks.zip vs).map (·.2) = vs := by
  rw [List.map_snd_zip (by omega)]
theorem e_tupVals (hc : X.calm = true) (hm : X.mg "tuple" = none) (he : BOk X W e S) (hg : Gl X "tuple" := by rfl) (hbase : attributeBase e "values" X.env (eval e X.env) = eval e X.env := by rfl) (hline : (apos.endLine == cpos.line) = true := by rfl)
    (na : starEach [.Call (.Attribute e "values" apos) [] [] cpos] X.env = (false, eval (.Call (.Attribute e "values" apos) [] [] cpos) X.env) :: starEach [] X.env := by rfl) : EOk X W (.Call (.Name "tuple" p) [.Call (.Attribute e "values" apos) [] [] cpos] [] pos) (s1 fTupV S) :=
  ⟨PE.imp (pe_tupVals hc hg hm he.pe hbase hline na) fun σ H Q ⟨P, ρ, A, st, h⟩ => ⟨P, ρ, A, st, by
    unfold s1 at h
    cases hs : S ρ with
    | bad => simp only [hs, Res.bind] at h
    | exc x => simp only [hs, Res.bind] at h; exact h
    | ok d =>
      simp only [hs, Res.bind] at h
      intro v P1 H1 B1 e1 r o
      cases d with
      | dct ob ks ds =>
        obtain ⟨a, vs, B, rfl, hdk, hl, rl, hB⟩ := dget_of e1.und r
        by_cases c : cleanL ds = true
        · simp only [fTupV, c, if_true, opt] at h
          refine ⟨a, _, rfl, hdk, fun b hb => ?_⟩
          rw [zip_snd hl]
          exact post_tup e1.und (Post.ext h st.und e1) (rl.nil_of c) hb
        · simp only [fTupV, c, Bool.false_eq_true, if_false, opt] at h
      | _ => simp [fTupV, opt] at h⟩⟩
end
end RL

/-! RL: {k: v, ..}. -/
namespace RL
open PySem PySem.Spec PyProof.Rows L2
def tDp (G : Gd) (W : WX) (S : Env → Res (List (Key × D))) : Sl → Hp → (List (V × V) → Hp → Prop) → Prop := fun σ H Q => ∃ P ρ A, StRel G P H σ ρ A ∧ match S ρ with
  | .ok r => ∀ vs P' H' B, Ext P H P' H' [] → RelL G P' H' vs (r.map (·.2)) B → Fresh P' H B → Q ((r.map fun z => kV z.1).zip vs) H'
  | .exc x => PostX G P H W σ x
  | .bad => False
structure DpOk (X : Cx) (W : WX) (keys : List (Option Expr)) (values : List Expr) (S : Env → Res (List (Key × D))) : Prop where
  ex : ∃ trs, (∀ pos, PPs X pos keys values trs) ∧ ∀ σ H Q, tDp (gd X) W S σ H Q → tPairs trs σ H Q
def sDpNil : Env → Res (List (Key × D)) := fun _ => .ok []
def sDpCons (Sk Sv : Env → Res D) (T : Env → Res (List (Key × D))) : Env → Res (List (Key × D)) := fun ρ => (Sk ρ).bind fun k => (Sv ρ).bind fun d => (T ρ).bind fun r => match keyOf k with
  | some k => .ok ((k, d) :: r)
  | none => .bad
def mkP : List (Key × D) → List Key → List D → D
  | [], ks, ds => .dct true ks ds
  | (k, d) :: r, ks, ds => mkP r (putKs k ks) (putVs k d ks ds)
theorem mp_rel {G : Gd} {P H : Hp} : ∀ {r : List (Key × D)} {vs : List V} {A : List Addr} {ks : List Key} {ws : List V} {ds : List D} {B : List Addr}, RelL G P H vs (r.map (·.2)) A → RelL G P H ws ds B → ks.Nodup → ks.length = ws.length →
    ∃ (ks' : List Key) (vs' : List V) (ds' : List D) (C : List Addr), mergeK (ks.zip ws) ((r.map (·.1)).zip vs) = ks'.zip vs' ∧ ks'.length = vs'.length ∧ mkP r ks ds = .dct true ks' ds' ∧ RelL G P H vs' ds' C ∧ (∀ b ∈ C, b ∈ A ∨ b ∈ B) ∧ ((A ++ B).Nodup → C.Nodup)
  | [], _, _, ks, ws, ds, B, .nil, t, nd, hl => ⟨ks, ws, ds, B, rfl, hl, rfl, t, fun b hb => .inr hb, fun n => n⟩
  | (k, d) :: r, _, _, ks, ws, ds, B, .cons (v := v) (A := A1) (vs := vs) (B := A2) rv rr, t, nd, hl => by
    obtain ⟨Bq, q1, R1, p1, s1⟩ := RelL.putV (k := k) rv t hl
    obtain ⟨ks', vs', ds', C, h1, h2, h3, h4, h5, h6⟩ := mp_rel rr q1 (putKs_nodup nd) (putKs_len hl)
    refine ⟨ks', vs', ds', C, ?_, h2, h3, h4, ?_, ?_⟩
    · show mergeK (putK (ks.zip ws) k v) _ = _
      rw [putK_zip nd hl]
      exact h1
    · intro b hb
      rcases h5 b hb with z | z
      · exact .inl (List.mem_append_right _ z)
      · rcases List.mem_append.mp (p1.subset z) with z | z
        · exact .inl (List.mem_append_left _ z)
        · exact .inr (s1.subset z)
    · intro nn
      obtain ⟨m1, m2, m3⟩ := List.nodup_append.mp nn
      obtain ⟨m4, m5, m6⟩ := List.nodup_append.mp m1
      refine h6 (List.nodup_append.mpr ⟨m5, p1.nodup_iff.mpr (List.nodup_append.mpr ⟨m4, m2.sublist s1, fun x hx y hy => m3 x (List.mem_append_left _ hx) y (s1.subset hy)⟩), fun x hx y hy => ?_⟩)
      rcases List.mem_append.mp (p1.subset hy) with z | z
      · exact fun w => m6 y z x hx w.symm
      · exact m3 x (List.mem_append_right _ hx) y (s1.subset z)
section
variable {X : Cx} {W : WX} {pos : Pos} {k v : Expr} {ks : List (Option Expr)} {vs : List Expr} {Sk Sv : Env → Res D} {T : Env → Res (List (Key × D))}
theorem dp_nil : DpOk X W [] [] sDpNil := ⟨[], fun _ => pps_nil, fun σ H Q ⟨P, ρ, A, st, q⟩ => q [] P H [] (Ext.refl st.und) .nil Fresh.nil⟩
theorem dp_cons (hk : EOk X W k Sk) (hv : EOk X W v Sv) (ht : DpOk X W ks vs T) : DpOk X W (some k :: ks) (v :: vs) (sDpCons Sk Sv T) := by
  obtain ⟨trs, h1, h2⟩ := ht.ex
  refine ⟨_, fun pos => pps_cons hk.pe hv.pe (h1 pos), fun σ H Q ⟨P, ρ, A, st, q⟩ => ⟨P, ρ, A, st, ?_⟩⟩
  unfold sDpCons at q
  cases ek : Sk ρ with
  | bad => simp only [ek, Res.bind] at q
  | exc x => simp only [ek, Res.bind] at q; exact q
  | ok dk =>
    simp only [ek, Res.bind] at q
    intro vk P1 H1 Bk e1 rk fk
    refine ⟨P1, ρ, A, st.ext e1, ?_⟩
    cases ev : Sv ρ with
    | bad => simp only [ev] at q
    | exc x => simp only [ev] at q; exact PostX.ext q st.und e1
    | ok dv =>
      simp only [ev] at q
      intro vv P2 H2 Bv e2 rv fv
      have e12 := e1.trans st.und e2
      refine h2 σ H2 _ ⟨P2, ρ, A, st.ext e12, ?_⟩
      cases et : T ρ with
      | bad => simp only [et] at q
      | exc x => simp only [et] at q; exact PostX.ext q st.und e12
      | ok r =>
        simp only [et] at q
        cases ko : keyOf dk with
        | none => simp only [ko] at q
        | some key =>
          simp only [ko] at q
          intro ws P3 H3 Br e3 rr fr
          have ekv := key_rel rk ko
          subst ekv
          have o2 : ∀ b ∈ Bv, P2 b = none := fun b hb => (fv.2 b hb).2
          refine q (vv :: ws) P3 H3 (Bv ++ Br) (e12.trans st.und e3) (.cons (rv.ext e3 o2) rr) ⟨?_, fun b hb => ?_⟩
          · refine List.nodup_append.mpr ⟨fv.1, fr.1, fun x hx y hy z => ?_⟩
            obtain ⟨o, ho⟩ := rv.at x hx
            rw [z, (fr.2 y hy).1] at ho; cases ho
          · rcases List.mem_append.mp hb with hb | hb
            · exact ⟨e1.free st.und (fv.2 b hb).1, (e3.own rv.at o2).2 b hb⟩
            · exact ⟨e12.free st.und (fr.2 b hb).1, (fr.2 b hb).2⟩
def sDisp (T : Env → Res (List (Key × D))) : Env → Res D := fun ρ => (T ρ).bind fun r => if r.length ≤ 15 then .ok (mkP r [] []) else .bad
theorem e_disp {keys : List (Option Expr)} {values : List Expr} (h : DpOk X W keys values T) (hall : keys.all (·.isSome) = true := by rfl) (hl : keys.length = values.length := by rfl) (h0 : keys ≠ [] := by exact List.cons_ne_nil _ _) (h15 : keys.length ≤ 15 := by decide) : EOk X W (.Dict keys values pos) (sDisp T) := by
  obtain ⟨trs, h1, h2⟩ := h.ex
  refine ⟨PE.imp (pe_disp (h1 pos) hall hl h0 h15) fun σ H Q ⟨P, ρ, A, st, q⟩ p hp => ?_⟩
  have e0 := ext_own (o := .dK []) st.und hp
  refine h2 σ _ _ ⟨P, ρ, A, st.ext e0, ?_⟩
  unfold sDisp at q
  cases et : T ρ with
  | bad => simp only [et, Res.bind] at q
  | exc x => simp only [et, Res.bind] at q; exact PostX.ext q st.und e0
  | ok r =>
    simp only [et, Res.bind] at q
    by_cases few : r.length ≤ 15
    · simp only [few, if_true] at q
      intro ws P1 H1 B e1 rr fr
      have pn : P p = none := st.und.free hp
      have keep : H1 p = some (.dK []) := e1.keep p _ upd_same pn (by simp)
      have pn1 : P1 p = none := (e1.own (A := [p]) (fun b hb => by simp at hb; subst hb; exact ⟨_, upd_same⟩) (fun b hb => by simp at hb; subst hb; exact pn)).2 p (by simp)
      have hlen := rr.length
      rw [List.length_map] at hlen
      refine ⟨keep, (r.map (·.1)).zip ws, ?_, ?_, ?_⟩
      · rw [show (r.map fun z => kV z.1) = (r.map (·.1)).map kV by simp, List.zip_map_left]
        rfl
      · rw [List.length_zip, List.length_map]
        omega
      · obtain ⟨ks', vs', ds', C, g1, g2, g3, g4, g5, g6⟩ := mp_rel rr (ks := []) (ws := []) .nil List.nodup_nil rfl
        rw [List.append_nil] at g6
        have g1' : mergeK [] ((r.map (·.1)).zip ws) = ks'.zip vs' := g1
        rw [g3] at q
        rw [g1']
        have cB : ∀ b ∈ C, b ∈ B := fun b hb => (g5 b hb).resolve_right (by simp)
        have np : p ∉ C := fun z => by
          have := (fr.2 p (cB p z)).1
          rw [upd_same] at this; cases this
        have ne : ∀ b ∈ C, b ≠ p := fun b hb z => np (z ▸ hb)
        have ex := Ext.updNew (o := .dK (ks'.zip vs')) (e0.trans st.und e1) hp pn1
        refine q _ P1 _ (p :: C) ex (.dctO upd_same g2 (g4.mono (Same.refl _) fun b hb => upd_ne (ne b hb))) ⟨List.nodup_cons.mpr ⟨np, g6 fr.1⟩, fun b hb => ?_⟩
        rcases List.mem_cons.mp hb with rfl | hb
        · exact ⟨hp, pn1⟩
        · have := (fr.2 b (cB b hb)).1
          rw [upd_ne (ne b hb)] at this
          exact ⟨this, (fr.2 b (cB b hb)).2⟩
    · simp only [few, if_false] at q
end
end RL

/-! RL: tuples that are known to their objects; dict(a tuple of pairs). -/
namespace RL
open PySem PySem.Spec PyProof.Rows L2
section
variable {X : Cx} {W : WX} {e : Expr} {S : Env → Res D} {pos : Pos}
/-- tuple(a list), known to its object -/
def fTux : D → Option D
  | .lst _ ds => if cleanL ds = true then some (.tux ds) else none
  | _ => none
theorem call_tupleX : CallR X (.type "tuple") (fun vs H Q => ∃ a ws, vs = [V.ref a] ∧ SqL X.K H a ws ∧ ∀ (l : Addr) (o : Obj), o.dict = none → H l = none → Q (.ref l) (upd H l (.frz o (.tup ws)))) := by
  intro pn s0 σ H vs us Q J rv h
  obtain ⟨a, ws, rfl, hq, q⟩ := h
  obtain ⟨u, rfl, ru⟩ := vals1 rv
  cases ru
  obtain ⟨its, rw', pl, hz⟩ := J.list hq
  have hlen := rw'.length
  refine call_tuple_list pl.isList (fun g kp => ?_) (by simp only [List.size_toArray]; omega)
  have J1 : Inv X pn σ H { s0 with heap := g } := J.kept (t' := s0.toks) kp
  have at_ : (g.push { cls := .type "tuple", data := .seq its.toArray }).get? g.objs.size = some { cls := .type "tuple", data := .seq its.toArray } := Heap.get?_push_size _ rfl
  have J2 : Inv X pn σ (upd H g.objs.size (.frz { cls := .type "tuple", data := .seq its.toArray } (.tup ws))) { s0 with heap := g.push { cls := .type "tuple", data := .seq its.toArray } } :=
    J1.laid (t' := s0.toks) (fun b o z => Heap.get?_push_of_some _ z) (Nat.le_refl _) (show ObjOk X.prog X.w _ _ _ (.frz _ (.tup ws)) from ⟨at_, hz, its, rw', IsTup.new _ _⟩)
  exact ⟨.ref g.objs.size, _, J2, rfl, q _ _ rfl (J1.hok.fresh (Nat.le_refl _))⟩
theorem post_tux {G : Gd} {P H : Hp} {Q : VK} {ds : List D} {xs : List V} {p : Addr} {o : Obj} (u : Under P H) (h : Post G P H Q (.tux ds)) (ho : o.dict = none) (r : RelL G P H xs ds []) (hp : H p = none) : Q (.ref p) (upd H p (.frz o (.tup xs))) :=
  h _ _ _ _ (ext_fix u hp) (.tux upd_same ho (r.mono (ext_fix (o := .frz o (.tup xs)) u hp).same (by simp))) Fresh.nil
theorem c_tux : CallR X (.type "tuple") (rC (gd X) (on1 fTux)) := CallR.imp call_tupleX fun xs H Q h => by
  obtain ⟨v, P, d, B, z, rfl, un, r, o, hf, q⟩ := rC1 h
  cases r with
  | lstF q1 r =>
    simp only [fTux] at hf
    split at hf
    · rename_i c; cases hf; exact ⟨_, _, rfl, un.seqL (SqL.of q1), fun l o ho hl => post_tux un q ho (r.nil_of c) hl⟩
    · cases hf
  | lstO q1 r =>
    simp only [fTux] at hf
    split at hf
    · rename_i c; cases hf; exact ⟨_, _, rfl, SqL.of q1, fun l o ho hl => post_tux un q ho (r.nil_of c) hl⟩
    · cases hf
  | _ => simp [fTux] at hf
/-! ### what it is otherwise: a tuple -/
def D.tp1 : D → D
  | .tux ds => .tup ds
  | d => d
mutual
def D.tp : D → D
  | .tux ds => .tup (tpL ds)
  | .tup ds => .tup (tpL ds)
  | d => d
def tpL : List D → List D
  | [] => []
  | d :: ds => d.tp :: tpL ds
end
theorem Rel.tp1 {G : Gd} {P H : Hp} {v : V} {d : D} {A : List Addr} (r : Rel G P H v d A) : Rel G P H v d.tp1 A := by
  cases r with
  | tux h e r => exact .tup (.inl (.inr ⟨_, h⟩)) r
  | _ => constructor <;> assumption
mutual
theorem Rel.tp {G : Gd} {P H : Hp} : ∀ {v : V} {d : D} {A : List Addr}, Rel G P H v d A → Rel G P H v d.tp A
  | _, _, _, .tux h e r => by simp only [D.tp]; exact .tup (.inl (.inr ⟨_, h⟩)) (RelL.tp r)
  | _, _, _, .tup q r => by simp only [D.tp]; exact .tup q (RelL.tp r)
  | _, _, _, .non => by simp only [D.tp]; exact .non
  | _, _, _, .bl b => by simp only [D.tp]; exact .bl b
  | _, _, _, .int b => by simp only [D.tp]; exact .int b
  | _, _, _, .str b => by simp only [D.tp]; exact .str b
  | _, _, _, .scr q => by simp only [D.tp]; exact .scr q
  | _, _, _, .lstF q r => by simp only [D.tp]; exact .lstF q r
  | _, _, _, .lstO q r => by simp only [D.tp]; exact .lstO q r
  | _, _, _, .dctF q l r => by simp only [D.tp]; exact .dctF q l r
  | _, _, _, .dctO q l r => by simp only [D.tp]; exact .dctO q l r
  | _, _, _, .objF c q l r => by simp only [D.tp]; exact .objF c q l r
  | _, _, _, .objO c q l r => by simp only [D.tp]; exact .objO c q l r
  | _, _, _, .exn c q x => by simp only [D.tp]; exact .exn c q x
theorem RelL.tp {G : Gd} {P H : Hp} : ∀ {vs : List V} {ds : List D} {A : List Addr}, RelL G P H vs ds A → RelL G P H vs (tpL ds) A
  | _, _, _, .nil => by simp only [tpL]; exact .nil
  | _, _, _, .cons r t => by simp only [tpL]; exact .cons (Rel.tp r) (RelL.tp t)
end
/-- a value taken as another reading of it -/
def sTo (f : D → D) (S : Env → Res D) : Env → Res D := fun ρ => (S ρ).bind fun d => .ok (f d)
theorem e_to {f : D → D} (hf : ∀ {G : Gd} {P H : Hp} {v : V} {d : D} {A : List Addr}, Rel G P H v d A → Rel G P H v (f d) A) (he : EOk X W e S) : EOk X W e (sTo f S) := ⟨PE.imp he.pe fun σ H Q ⟨P, ρ, A, st, h⟩ => ⟨P, ρ, A, st, by
  unfold sTo at h
  cases hs : S ρ with
  | bad => simp only [hs, Res.bind] at h
  | exc x => simp only [hs, Res.bind] at h; exact h
  | ok d =>
    simp only [hs, Res.bind] at h
    exact fun v P1 H1 B e1 r fr => h v P1 H1 B e1 (hf r) fr⟩⟩
theorem b_to {f : D → D} (hf : ∀ {G : Gd} {P H : Hp} {v : V} {d : D} {A : List Addr}, Rel G P H v d A → Rel G P H v (f d) A) (he : BOk X W e S) : BOk X W e (sTo f S) := ⟨PE.imp he.pe fun σ H Q ⟨P, ρ, A, st, h⟩ => ⟨P, ρ, A, st, by
  unfold sTo at h
  cases hs : S ρ with
  | bad => simp only [hs, Res.bind] at h
  | exc x => simp only [hs, Res.bind] at h; exact h
  | ok d =>
    simp only [hs, Res.bind] at h
    exact fun v P1 H1 B e1 r fr => h v P1 H1 B e1 (hf r) fr⟩⟩
theorem e_tp1 (he : EOk X W e S) : EOk X W e (sTo D.tp1 S) := e_to Rel.tp1 he
theorem b_tp1 (he : BOk X W e S) : BOk X W e (sTo D.tp1 S) := b_to Rel.tp1 he
theorem e_tp (he : EOk X W e S) : EOk X W e (sTo D.tp S) := e_to Rel.tp he
theorem b_tp (he : BOk X W e S) : BOk X W e (sTo D.tp S) := b_to Rel.tp he
@[simp] theorem tp1_x {ds : List D} : (D.tux ds).tp1 = .tup ds := rfl
@[simp] theorem tp1_t {ds : List D} : (D.tup ds).tp1 = .tup ds := rfl
@[simp] theorem clean_x {ds : List D} : (D.tux ds).clean = cleanL ds := by simp [D.clean]
@[simp] theorem frz_x {ds : List D} : (D.tux ds).frz = .tux (frzL ds) := by simp [D.frz]
@[simp] theorem sTo_ap {f : D → D} {ρ : Env} : sTo f S ρ = (S ρ).bind fun d => .ok (f d) := rfl
/-! ### dict(a tuple of pairs) -/
theorem pairsU {pn : List (Addr × Obj)} {σ : Sl} {H : Hp} {s0 : Shared} (J : Inv X pn σ H s0) : ∀ {as : List Addr} {kvs : List (Key × V)}, Paired (fun p (kv : Key × V) => SqT X.K H p [kV kv.1, kv.2]) as kvs →
    ∃ (prs : List (Key × Value)) (us : List Value), KV kvs prs ∧ prs.length = as.length ∧ us.length = as.length ∧ ∀ (j : Nat) (b : Addr), as[j]? = some b → ∃ (q : Key × Value) (u : Value), prs[j]? = some q ∧ us[j]? = some u ∧ IsTup s0.heap b #[u, q.2] ∧ keyIs q.1 u = true
  | _, _, .nil => ⟨[], [], .nil, rfl, rfl, fun j b z => by simp at z⟩
  | _, _, .cons (a := a) (b := kv) h t => by
    obtain ⟨prs, us, r, l1, l2, hp⟩ := pairsU J t
    obtain ⟨its, rv, ht, _⟩ := J.tuple h
    obtain ⟨u, y, ei, ru, ry⟩ := vals2 rv
    subst ei
    refine ⟨(kv.1, y) :: prs, u :: us, .cons ⟨rfl, ry⟩ r, by simp [l1], by simp [l2], fun j b z => ?_⟩
    cases j with
    | zero =>
      have z' : a = b := Option.some.inj z
      subst z'
      exact ⟨(kv.1, y), u, rfl, rfl, ht, kV_is (P := X.prog) (w := X.w) ru⟩
    | succ j => exact hp j b (by simpa using z)
theorem call_dictT (hcalm : X.calm = true) : CallR X (.type "dict") (fun xs H Q => ∃ (a : Addr) (o : Obj) (as : List Addr) (kvs : List (Key × V)), xs = [V.ref a] ∧ H a = some (.frz o (.tup (as.map V.ref))) ∧ o.dict = none ∧
    Paired (fun p (kv : Key × V) => SqT X.K H p [kV kv.1, kv.2]) as kvs ∧ ∀ p, H p = none → Q (.ref p) (upd H p (.dK (mergeK [] kvs)))) := by
  intro pn s0 σ H vs us0 Q J rv h
  obtain ⟨a, o, as, kvs, rfl, hH, hd, hp, q⟩ := h
  obtain ⟨u, rfl, ru⟩ := vals1 rv
  cases ru
  obtain ⟨ho, hz, its, ri, o', ho', hc, n, hdat⟩ := J.hok a _ hH
  rw [ho] at ho'
  cases ho'
  have ei := refs_at ri
  subst ei
  rw [List.length_map] at hz
  obtain ⟨prs, us, rel, l1, l2, hpr⟩ := pairsU J hp
  let ps : List (Value × Value) := us.zip (prs.map (·.2))
  have pl : ps.length = as.length := by simp [ps, l1, l2]
  have at_ : ∀ (j : Nat) (k v : Value), ps[j]? = some (k, v) → ∃ (b : Addr) (q : Key × Value), as[j]? = some b ∧ prs[j]? = some q ∧ us[j]? = some k ∧ q.2 = v ∧ IsTup s0.heap b #[k, v] ∧ keyIs q.1 k = true := by
    intro j k v z
    have hj : j < as.length := by
      have := (List.getElem?_eq_some_iff.mp z).1
      omega
    obtain ⟨b, hb⟩ : ∃ b, as[j]? = some b := ⟨_, List.getElem?_eq_getElem hj⟩
    obtain ⟨q, u, e1, e2, e3, e4⟩ := hpr j b hb
    have z' : (us.zip (prs.map (·.2)))[j]? = some (k, v) := z
    rw [List.getElem?_zip_eq_some, List.getElem?_map, e1, e2] at z'
    obtain ⟨z1, z2⟩ := z'
    cases z1
    cases z2
    exact ⟨b, q, hb, e1, e2, rfl, e3, e4⟩
  have P := PairArg.tuple (prog := X.prog) (w := X.w) a (as.map Value.ref).toArray (fun j => (as[j]?).getD 0) ps
  have ok : PlainSeq "tuple" s0.heap a (as.map Value.ref).toArray ∧ PairItems s0.heap (as.map Value.ref).toArray (fun j => (as[j]?).getD 0) ps := by
    refine ⟨⟨o, n, ho, hc, hd, hdat⟩, by simp [pl], fun j k v z => ?_⟩
    obtain ⟨b, q, e1, e2, e3, e4, e5, e6⟩ := at_ j k v z
    refine ⟨by simp [e1], .inl ?_⟩
    simp only [e1, Option.getD_some]
    exact e5
  have hv : PairsHave (mixKind X.prog X.w) ps.length (PairRel ps) prs := by
    refine ⟨by rw [pl, l1], fun j k v z => ?_⟩
    obtain ⟨b, q, e1, e2, e3, e4, e5, e6⟩ := at_ j k v z
    exact ⟨q.1, by rw [e2, ← e4], e6⟩
  refine PySem.call_dict_pairs P (J.ok.hd hcalm) ok hv (by rw [pl]; exact hz) fun g tk hg kp => ?_
  have hm : (s0.heap.objs.size == sysModules) = false := beq_eq_false_iff_ne.mpr (Nat.ne_of_gt J.big)
  have hlen : (mergeK [] kvs).length ≤ sizeLine := by
    refine Nat.le_trans (length_mergeK kvs []) ?_
    rw [List.length_nil, Nat.zero_add, rel.length, l1]
    exact hz
  have J2 := J.laid (t' := tk) (fun b u e => kp b u (by simp) e) (Nat.le_refl _) (show ObjOk X.prog X.w _ _ _ (.dK (mergeK [] kvs)) from ⟨hlen, hm, merged [] prs, KV.merge rel .nil, hg⟩)
  exact ⟨.ref s0.heap.objs.size, _, J2, rfl, q _ (J.hok.fresh (Nat.le_refl _))⟩
def fDictT : D → Option D
  | .tux ps => mkD ps [] []
  | _ => none
theorem e_dictT {p : Pos} (hc : X.calm = true) (hm : X.mg "dict" = none) (he : EOk X W e S) (hg : Gl X "dict" := by rfl) (hs : starEach [e] X.env = (false, eval e X.env) :: starEach [] X.env := by rfl) (hpl : (backTo pos (starEach [] X.env)).any (·.1) = false := by rfl) :
    EOk X W (.Call (.Name "dict" p) [e] [] pos) (s1 fDictT S) := ⟨PE.imp (pe_callTy (call_dictT hc) hg hm (by decide +kernel) (pa_cons he.pe pa_nil hs) (by decide) (by decide) hs hpl) fun σ H Q ⟨P, ρ, A, st, h⟩ => ⟨P, ρ, A, st, by
  unfold s1 at h
  cases hsS : S ρ with
  | bad => simp only [hsS, Res.bind] at h
  | exc x => simp only [hsS, Res.bind] at h; exact h
  | ok d =>
    simp only [hsS, Res.bind] at h
    intro v P1 H1 B e1 r fr
    cases hf : fDictT d with
    | none => simp only [hf, opt] at h
    | some z =>
      simp only [hf, opt] at h
      cases r with
      | @tux a o xs ps hP ho rl =>
        obtain ⟨as, kvs, ks', vs', ds', C, h1, h2, h3, h4, h5, h6, h7, h8⟩ := mk_rel e1.und rl (ks := []) (vs := []) .nil List.nodup_nil rfl (show mkD ps [] [] = some z from hf)
        subst h1
        subst h5
        have hH : H1 a = some (.frz o (.tup (as.map V.ref))) := by
          rcases e1.und _ _ hP with z | ⟨_, _, z, _⟩ | ⟨_, _, z, _⟩
          · exact z
          · cases z
          · cases z
        refine ⟨a, o, as, kvs, rfl, hH, ho, h2, fun p hp => ?_⟩
        have h3' : mergeK [] kvs = ks'.zip vs' := h3
        rw [h3']
        have eC : C = [] := by
          cases C with
          | nil => rfl
          | cons c cs => exact absurd (h7 c List.mem_cons_self) (by simp)
        subst eC
        exact post_dct e1.und (Post.ext h st.und e1) h4 h6 hp
      | _ => simp [fDictT] at hf⟩⟩
end
end RL

/-! RL: sorted by keys: what the key functions do, the sort. -/
namespace RL
open PySem PySem.Spec PyProof.Rows L2
/-! ### the keys' bodies -/
section
variable {prog : Program} {w : World} {A : Around} {E : Value → Shared → Prop} {s : Shared} {en : PySem.Env} {x : Str} {m : Str → Option Value} {v y : Value} {Q : Value → Shared → Prop} {p1 p2 p3 p4 : Pos} {j : Nat}
/-- the function's own names -/
structure Lcl (en : PySem.Env) (s : Shared) (m : Str → Option Value) : Prop where
  kind : en.scope.kind = .function
  ns : s.heap.Ns en.locals m
theorem kv_name (L : Lcl en s m) (hl : en.scope.names.lookup x = some .local) (hm : m x = some v) (hd : (x == ("__debug__" : Str)) = false) (h : Q v s) : wpAny (model prog w) A (eval (.Name x p1) en) Q E s :=
  wpAny_Name (wpAny_loadName_local L.kind hl L.ns hm h) hd
/-- x[i], x a tuple -/
theorem kv_at {t : Addr} {its : List Value} {i : Nat} (L : Lcl en s m) (hl : en.scope.names.lookup x = some .local) (hm : m x = some (.ref t)) (hd : (x == ("__debug__" : Str)) = false) (ht : IsTup s.heap t its.toArray) (hy : its[i]? = some y) (hi : i < 1000)
    (h : ∀ k, Q y { s with toks := k }) : wpAny (model prog w) A (eval (.Subscript (.Name x p1) (.Constant (.int (i : Int)) j p2) p3) en) Q E s := by
  refine PyProof.Rows.Subscript_ (kv_name L hl hm hd ?_)
  refine wpAny_Constant_int ?_
  have lt : i < its.length := (List.getElem?_eq_some_iff.mp hy).1
  have hj : seqIndex? (i : Int) its.length = some i := by
    unfold seqIndex?
    have h1 : ¬ ((i : Int) < 0) := by omega
    have h2 : ((i : Int) < its.length) := by omega
    simp [h1, h2]
  exact item_tupleL (l := its) (k := (i : Int)) (j := i) ht (by omega) (by omega) hj hy (h _)
end
/-- the value is a tuple whose first thing is that number -/
def Key1 (h : Heap) (v : Value) (k : PyData) : Prop := ∃ a its i t, v = .ref a ∧ IsTup h a (List.toArray its) ∧ its[0]? = some (Value.int i t) ∧ k = .int i
/-- .. whose first things are that number, that text -/
def Key2 (h : Heap) (v : Value) (k : PyData) : Prop := ∃ a its i t x t', v = .ref a ∧ IsTup h a (List.toArray its) ∧ its[0]? = some (Value.int i t) ∧ its[1]? = some (Value.str x t') ∧ k = .tuple [.int i, .str x]
/-- a function of one argument tells the key -/
def Tells (prog : Program) (w : World) (A : Around) (f : Value) (s0 : Shared) (KA : Heap → Value → PyData → Prop) : Prop :=
  ∀ (v : Value) (k : PyData) (h : Heap) (tk : Nat), (∀ b o, s0.heap.get? b = some o → h.get? b = some o) → KA h v k →
    wpAny (model prog w) A (call f [v]) (PySem.W.KeyPure k { s0 with heap := h, toks := tk }) (fun _ _ => False) { s0 with heap := h, toks := tk }
/-- a body of one name that tells the key -/
def BodyTells (prog : Program) (w : World) (body : Expr) (x : Str) (KA : Heap → Value → PyData → Prop) : Prop :=
  ∀ (A : Around) (en : PySem.Env) (s : Shared) (m : Str → Option Value) (v : Value) (k : PyData), Lcl en s m → en.scope.names.lookup x = some .local → m x = some v → KA s.heap v k →
    wpAny (model prog w) A (eval body en) (PySem.W.KeyPure k s) (fun _ _ => False) s
theorem body1 {prog : Program} {w : World} {x : Str} {p1 p2 p3 : Pos} {j : Nat} (hd : (x == ("__debug__" : Str)) = false) : BodyTells prog w (.Subscript (.Name x p1) (.Constant (.int 0) j p2) p3) x Key1 := by
  intro A en s m v k L hl hm ⟨a, its, i, t, e1, ht, h0, e2⟩
  subst e1
  subst e2
  exact kv_at (i := 0) L hl hm hd ht h0 (by decide) fun tk => ⟨s.heap, tk, rfl, fun _ _ z => z, .int _ _⟩
theorem body2 {prog : Program} {w : World} {x : Str} {p1 p2 p3 p4 p5 p6 p7 : Pos} {j j2 j3 : Nat} (hd : (x == ("__debug__" : Str)) = false) :
    BodyTells prog w (.Tuple [.Subscript (.Name x p1) (.Constant (.int 0) j p2) p3, .Subscript (.Name x p4) (.Constant (.int 1) j2 p5) p6] j3 p7) x Key2 := by
  intro A en s m v k L hl hm ⟨a, its, i, t, z, t', e1, ht, h0, h1, e2⟩
  subst e1
  subst e2
  refine wpAny_Tuple_spliced ?_
  refine Calls.spliced_cons (kv_at (i := 0) L hl hm hd ht h0 (by decide) fun tk => ?_)
  refine Calls.spliced_cons (kv_at (i := 1) ⟨L.kind, L.ns⟩ hl hm hd ht h1 (by decide) fun tk2 => ?_)
  refine Calls.spliced_nil ⟨by show 2 ≤ sizeLine; decide, ?_⟩
  refine ⟨s.heap.push { cls := .type "tuple", data := .seq (List.toArray [Value.int i t, .str z t']) }, tk2, rfl, fun b o q => Heap.get?_push_of_some _ q, ?_⟩
  exact .tuple (Heap.get?_push_size _ rfl) rfl rfl (.cons (as := []) (bs := []) (.int _ _) (.cons (as := []) (bs := []) (.str _ _) .nil))
/-! ### the calls -/
theorem keyPure_of {k : PyData} {s s1 : Shared} {v : Value} {s2 : Shared} {h1 : Heap} {tk1 : Nat} (e : s1 = { s with heap := h1, toks := tk1 }) (kp : ∀ b o, s.heap.get? b = some o → h1.get? b = some o) (h : PySem.W.KeyPure k s1 v s2) : PySem.W.KeyPure k s v s2 := by
  obtain ⟨h', tk, e2, k2, r⟩ := h
  subst e
  exact ⟨h', tk, e2, fun b o q => k2 b o (kp b o q), r⟩
/-- a lambda of one argument -/
theorem tells_lam {prog : Program} {w : World} {A : Around} {f : Addr} {fd : FuncData} {o : Obj} {body : Expr} {x : Str} {s0 : Shared} {KA : Heap → Value → PyData → Prop} (hA : A.depth < recursionLimit) (ho : s0.heap.get? f = some o) (hf : o.data = .func fd)
    (hco : fd.scope.isCoroutine = false) (hge : fd.scope.isGenerator = false) (hk : fd.scope.kind = .function) (hb : fd.body = .expr body) (hc : s0.heap.CodeRec fd.code fd.qualname) (hlim : s0.heap.NoLimit)
    (hbind : ∀ v : Value, bindArgs fd ⟨[v], []⟩ = pure [(x, v)]) (hloc : fd.scope.names.lookup x = some .local) (hncell : ∀ y ∈ fd.scope.names, y.2 ≠ .cell) (B : BodyTells prog w body x KA) (hst : ∀ h h' v k, (∀ b o, h.get? b = some o → h'.get? b = some o) → KA h v k → KA h' v k) :
    Tells prog w A (.ref f) s0 KA := by
  intro v k h tk kp ka
  have cr : h.CodeRec fd.code fd.qualname := by
    obtain ⟨c, oc, vs, t, e1, e2, e3, e4⟩ := hc
    exact ⟨c, oc, vs, t, e1, kp _ _ e2, e3, e4⟩
  have lim : h.NoLimit := hlim.keeps kp
  refine wpAny_call (PySem.W.kla_callFunE (s := { s0 with heap := h, toks := tk }) hA (kp _ _ ho) hf hco hge hb cr ?_)
  rw [hbind]
  refine wpAny_pure (wpAny_newFunctionEnv hncell (fun y hy => by rw [List.mem_singleton.mp hy]; exact hloc) (fun h1 hns hsb => ?_) hk)
  have k1 : ∀ b o, h.get? b = some o → h1.get? b = some o := fun b o e => hsb.extBut b o (Nat.ne_of_lt (Heap.lt_size e)) (Heap.get?_push_of_some _ e)
  refine ⟨lim.keeps k1, PySem.W.kla_codeExpr (wpAny_mono (B _ _ _ (fun z => [(x, v)].reverse.lookup z) v k ⟨hk, hns⟩ hloc (by simp) (hst _ _ _ _ k1 ka)) (fun u s' q => ?_) fun e s' q => q.elim)⟩
  exact keyPure_of rfl k1 q
/-- a def of one argument that returns the key -/
theorem tells_def {prog : Program} {w : World} {A : Around} {f : Addr} {fd : FuncData} {o : Obj} {body : Expr} {rp : Pos} {x : Str} {s0 : Shared} {KA : Heap → Value → PyData → Prop} (hA : A.depth < recursionLimit) (ho : s0.heap.get? f = some o) (hf : o.data = .func fd)
    (hco : fd.scope.isCoroutine = false) (hge : fd.scope.isGenerator = false) (hk : fd.scope.kind = .function) (hb : fd.body = .stmts [.Return (some body) rp]) (hc : s0.heap.CodeRec fd.code fd.qualname) (hlim : s0.heap.NoLimit)
    (hbind : ∀ (s : Shared) (v : Value), BindsTo s fd ⟨[v], []⟩ [(x, v)]) (hloc : fd.scope.names.lookup x = some .local) (hncell : ∀ y ∈ fd.scope.names, y.2 ≠ .cell) (B : BodyTells prog w body x KA) (hst : ∀ h h' v k, (∀ b o, h.get? b = some o → h'.get? b = some o) → KA h v k → KA h' v k) :
    Tells prog w A (.ref f) s0 KA := by
  intro v k h tk kp ka
  have cr : h.CodeRec fd.code fd.qualname := by
    obtain ⟨c, oc, vs, t, e1, e2, e3, e4⟩ := hc
    exact ⟨c, oc, vs, t, e1, kp _ _ e2, e3, e4⟩
  have lim : h.NoLimit := hlim.keeps kp
  refine wpAny_call (codeAny_call_function (s := { s0 with heap := h, toks := tk }) hA (kp _ _ ho) hf hco hge hb cr (hbind _ _ _ _ _ _ ?_))
  refine wpAny_newFunctionEnv hncell (fun y hy => by rw [List.mem_singleton.mp hy]; exact hloc) (fun h1 hns hsb => ?_) hk
  have k1 : ∀ b o, h.get? b = some o → h1.get? b = some o := fun b o e => hsb.extBut b o (Nat.ne_of_lt (Heap.lt_size e)) (Heap.get?_push_of_some _ e)
  refine ⟨lim.keeps k1, codeAny_func (wpAny_execs_cons (wpAny_Return_some (wpAny_mono (B _ _ _ (fun z => [(x, v)].reverse.lookup z) v k ⟨hk, hns⟩ hloc (by simp) (hst _ _ _ _ k1 ka)) (fun u s' q => ?_) fun e s' q => q.elim)))⟩
  exact keyPure_of rfl k1 q
theorem key1_st : ∀ (h h' : Heap) (v : Value) (k : PyData), (∀ b o, h.get? b = some o → h'.get? b = some o) → Key1 h v k → Key1 h' v k := by
  rintro h h' v k kp ⟨a, its, i, t, e1, ht, h0, e2⟩
  exact ⟨a, its, i, t, e1, ht.keeps kp, h0, e2⟩
theorem key2_st : ∀ (h h' : Heap) (v : Value) (k : PyData), (∀ b o, h.get? b = some o → h'.get? b = some o) → Key2 h v k → Key2 h' v k := by
  rintro h h' v k kp ⟨a, its, i, t, x, t', e1, ht, h0, h1, e2⟩
  exact ⟨a, its, i, t, x, t', e1, ht.keeps kp, h0, h1, e2⟩
/-! ### the sort -/
theorem each_of {β : Type} {R : Value → V × β → Prop} : ∀ {vs : List V} {us : List Value} {ds : List β}, Vals vs us → vs.length = ds.length → (∀ (i : Nat) (v : V) (u : Value) (d : β), vs[i]? = some v → us[i]? = some u → ds[i]? = some d → RelV v u → R u (v, d)) → PySem.W.EachIs R us (vs.zip ds)
  | _, _, [], .nil, _, _ => .nil
  | _, _, _ :: _, .nil, h, _ => by simp at h
  | _, _, [], .cons _ _, h, _ => by simp at h
  | _, _, d :: ds, .cons r t, h, f => .cons (f 0 _ _ _ rfl rfl rfl r) (each_of t (by simpa using h) fun i v u d h1 h2 h3 => f (i + 1) v u d (by simpa using h1) (by simpa using h2) (by simpa using h3))
theorem each_vals {β : Type} {R : Value → V × β → Prop} (hR : ∀ u b, R u b → RelV b.1 u) : ∀ {us : List Value} {bs : List (V × β)}, PySem.W.EachIs R us bs → Vals (bs.map (·.1)) us
  | _, _, .nil => .nil
  | _, _, .cons r t => .cons (hR _ _ r) (each_vals hR t)
theorem run_sortK {X : Cx} {pn : List (Addr × Obj)} {σ : Sl} {H : Hp} {s : Shared} {a : Addr} {vs : List V} {ds : List D} {Q : VK} {f : Value} {kw : List (Str × Value)} {rev : Bool} {KA : Heap → Value → PyData → Prop} {key : D → PyData} (J : Inv X pn σ H s) (hu : X.A.units + 200 < cLine)
    (hl : SqL X.K H a vs) (hds : vs.length = ds.length) (hka : ∀ (i : Nat) (v : V) (u : Value) (d : D), vs[i]? = some v → ds[i]? = some d → RelV v u → KA s.heap u (key d)) (hal : PySem.W.AllAlike ((vs.zip ds).map fun b => key b.2)) (hsr : PySem.W.Sortable ((vs.zip ds).map fun b => key b.2))
    (hdep : ∀ d, (key d).depth ≤ 100) (hst : ∀ h h' v k, (∀ b o, h.get? b = some o → h'.get? b = some o) → KA h v k → KA h' v k)
    (ha1 : argsOk "sorted" ⟨[.ref a], kw⟩) (ha2 : ∀ x, argsOk "list.sort" ⟨[.ref x], kw⟩) (ht : ∀ x, Builtin.«list.sort» ⟨[.ref x], kw⟩ = ksk_tree x f rev) (tells : Tells X.prog X.w X.A.in1.in1 f s KA)
    (q : ∀ p, H p = none → Q (.ref p) (upd H p (.lst (((vs.zip ds).mergeSort (PySem.W.dataLe rev fun b => key b.2)).map (·.1))))) : wpAny (model X.prog X.w) X.A (call (.builtin "sorted") [.ref a] kw) (EP X pn σ Q) X.xe s := by
  obtain ⟨its, rv, pl, hz⟩ := J.list hl
  have e := each_of (R := fun u (b : V × D) => RelV b.1 u ∧ KA s.heap u (key b.2)) rv hds fun i v u d h1 h2 h3 r => ⟨r, hka i v u d h1 h3 r⟩
  refine PySem.W.sorted_key_data (β := V × D) (fun b => key b.2) pl.isList e hal hsr (by rw [List.length_zip]; omega) (fun x _ => by have := hdep x.2; omega) ha1 ha2 ht (fun v x hR _ h tk kp => tells v (key x.2) h tk kp (hst _ _ _ _ kp hR.2)) fun out c h' tk kp hn hat hol ho => ?_
  have vv := each_vals (fun u b r => r.1) ho
  have hln : (((vs.zip ds).mergeSort (PySem.W.dataLe rev fun b => key b.2)).map (·.1)).length ≤ sizeLine := by
    rw [List.length_map, List.length_mergeSort, List.length_zip]
    omega
  exact ⟨.ref (s.heap.objs.size + 1), _, J.laid (t' := tk) kp (Nat.le_succ _) (show ObjOk X.prog X.w _ _ _ (.lst _) from ⟨hln, out, c, vv, hat⟩), rfl, q _ (J.hok.fresh (Nat.le_succ _))⟩
end RL

/-! RL: sorted(xs, key=..), the key a lambda or a def. -/
namespace RL
open PySem PySem.Spec PyProof.Rows L2
/-! ### a lambda is made -/
section
variable {X : Cx} {pn : List (Addr × Obj)} {σ : Sl} {H P : Hp} {s : Shared} {c T : Addr} {q : Str}
/-- the def's code object and its table -/
structure LamAt (X : Cx) (c T : Addr) : Prop where
  code : X.env.code = .ref c
  hd : PySem.W.CodeHd X.base c T
  bm : X.base.BuiltinsAt X.mg T
  ne : mainGlobals ≠ T
  inT : (T, X.env.qual ++ "<lambda>") ∈ tabsOf X.K
/-- the table as it is -/
def TabIs (P H : Hp) (T : Addr) (q : Str) (ps : Array Value) : Prop := H T = some (.tbl ps) ∧ TriplesOk ps.toList ∧ ∀ (pos : Pos) (cv : Value), codeAmong pos ps.toList = some cv → ∃ c, cv = .ref c ∧ P c = some (LamX.CodeO c q)
theorem tab_is (u : Under P H) (h : P T = some (mark q)) : ∃ ps, TabIs P H T q ps := by
  rcases u _ _ h with z | ⟨_, _, z, _⟩ | ⟨q', ps, z1, z2, z3, z4⟩
  · refine ⟨_, z, True.intro, fun pos cv hc => ?_⟩
    exfalso
    simp only [codeAmong] at hc
    split at hc
    · rename_i e
      simp only [Bool.and_eq_true, beq_iff_eq] at e
      omega
    · simp at hc
  · cases z
  · have e : q = q' := by
      have z := z1
      simp only [mark, HO.tbl.injEq, Array.mk.injEq, List.cons.injEq, Value.str.injEq, and_true, true_and] at z
      exact z
    subst e
    exact ⟨ps, z2, z3, z4⟩
theorem ext_of (u : Under P H) {φ : Heap → Prop} {c : Addr} (h : P c = some (.ext φ)) : H c = some (.ext φ) := by
  rcases u _ _ h with z | ⟨_, _, z, _⟩ | ⟨_, _, z, _⟩
  · exact z
  · cases z
  · cases z
/-- what is known behind the making -/
theorem lam_made {params : Arguments} {body : Expr} {scope : Scope} {pos : Pos} {E : Value → Shared → Prop} {Q : Value → Shared → Prop} {ps : Array Value} (J : Inv X pn σ H s) (u : Under P H) (L : LamAt X c T) (t : TabIs P H T (X.env.qual ++ "<lambda>") ps) (hm : P T = some (mark (X.env.qual ++ "<lambda>")))
    (hdef : defaultsOf params X.env = ([], [])) (hfree : ∀ y ∈ scope.names, y.2 = .free → ∃ c, X.env.cells.lookup y.1 = some c)
    (h : ∀ (f c' : Addr) (pm ctv : Value) (P1 H1 : Hp) (s' : Shared), Inv X pn σ H1 s' → Ext P H P1 H1 [] → s'.heap.get? f = some (PySem.W.kla_obj "<lambda>" (X.env.qual ++ "<lambda>") params body scope (cloFrom X.env.cells scope.names []) pm c' ctv) →
      P1 c' = some (LamX.CodeO c' (X.env.qual ++ "<lambda>")) → Q (.ref f) s') :
    wpAny (model X.prog X.w) X.A (eval (.Lambda params body scope pos) X.env) Q E s := by
  obtain ⟨hT, htr, hco⟩ := t
  refine PySem.W.kla_eval hdef ?_
  have bT : s.heap.BuiltinsAt X.mg T := L.bm.keeps J.bk
  have atT : s.heap.get? T = some { cls := .none, data := .fields ps } := J.hok T _ hT
  cases hc : codeAmong pos ps.toList with
  | some cv =>
    obtain ⟨c', e, hcc⟩ := hco pos cv hc
    subst e
    refine PySem.W.kla_makeFunctionHit (mg := X.mg) (c := c) (P := T) (ps := ps) (closure_ok hfree) J.ok.glob (J.mod.glob.keeps J.bk) L.code (L.hd.keeps J.bk) atT htr hc bT fun ctv g tk hx hsz => ?_
    have J1 : Inv X pn σ H { s with heap := g.push (PySem.W.kla_obj "<lambda>" (X.env.qual ++ "<lambda>") params body scope (cloFrom X.env.cells scope.names []) ((X.mg "__name__").getD .none) c' ctv), toks := tk } := J.kept fun b o z => Heap.get?_push_of_some _ (hx b o z)
    exact h g.objs.size c' _ ctv P H _ J1 (Ext.refl u) (Heap.get?_push_size _ rfl) hcc
  | none =>
    refine PySem.W.kla_makeFunction (mg := X.mg) (c := c) (P := T) (ps := ps) (closure_ok hfree) J.ok.glob (J.mod.glob.keeps J.bk) L.code (L.hd.keeps J.bk) atT htr hc L.ne bT fun c' ctv g tk hx hge hlt hrec htb => ?_
    obtain ⟨c2, oc, vs, t0, e2, hoc, hd, hv⟩ := hrec
    cases e2
    have nC : H c' = none := J.hok.fresh hge
    have pC : P c' = none := u.free nC
    have nTC : c' ≠ T := fun z => by rw [z, hT] at nC; cases nC
    have J1 := LamX.inv_table (t' := tk) (more := #[rawInt pos.line, rawInt pos.col, .ref c']) (h' := g.push (PySem.W.kla_obj "<lambda>" (X.env.qual ++ "<lambda>") params body scope (cloFrom X.env.cells scope.names []) ((X.mg "__name__").getD .none) c' ctv)) J hT
      (fun b o hb e => Heap.get?_push_of_some _ (hx b o hb e)) (Heap.get?_push_of_some _ htb) hge ⟨oc, vs, t0, Heap.get?_push_of_some _ hoc, hd, hv⟩
    have eL : (ps ++ #[rawInt pos.line, rawInt pos.col, .ref c']).toList = ps.toList ++ [rawInt pos.line, rawInt pos.col, .ref c'] := by simp
    refine h g.objs.size c' _ ctv (upd P c' (LamX.CodeO c' (X.env.qual ++ "<lambda>"))) _ _ J1 ⟨?_, ?_, ?_, ?_, ?_⟩ (Heap.get?_push_size _ rfl) upd_same
    · intro b o z
      rw [upd_ne (ne_of_none z pC)]
      exact z
    · intro b o z
      by_cases e : b = c'
      · subst e
        rw [upd_same] at z ⊢
        exact .inl z
      · rw [upd_ne e] at z
        by_cases e2 : b = T
        · subst e2
          rw [hm] at z
          cases z
          refine .inr (.inr ⟨_, _, rfl, by rw [upd_ne e, upd_same], by rw [eL]; exact PySem.TriplesOk_snoc _ _ _ _ htr, fun p' cv hcv => ?_⟩)
          rw [eL] at hcv
          rcases LamX.among_app _ htr hcv with w | w
          · obtain ⟨d, d1, d2⟩ := hco p' cv w
            exact ⟨d, d1, by rw [upd_ne (ne_of_none d2 pC)]; exact d2⟩
          · exact ⟨c', w, upd_same⟩
        · rw [upd_ne e, upd_ne e2]
          rcases u b o z with w | w | ⟨q', ps', w1, w2, w3, w4⟩
          · exact .inl w
          · exact .inr (.inl w)
          · refine .inr (.inr ⟨q', ps', w1, w2, w3, fun p' cv hcv => ?_⟩)
            obtain ⟨d, d1, d2⟩ := w4 p' cv hcv
            exact ⟨d, d1, by rw [upd_ne (ne_of_none d2 pC)]; exact d2⟩
    · intro b o z n _
      have e1 : b ≠ c' := ne_of_none z nC
      have e2 : b ≠ T := fun w => by rw [w, hm] at n; cases n
      rw [upd_ne e1, upd_ne e2]
      exact z
    · intro b o w z
      have e1 : b ≠ c' := ne_of_none z nC
      have e2 : b ≠ T := fun y => by rw [y, hT] at z; cases z
      rw [upd_ne e1, upd_ne e2]
      exact z
    · intro b o z
      by_cases e : b = c'
      · subst e
        exact .inr (.inl nC)
      · rw [upd_ne e] at z
        exact .inl z
end
theorem relL_cons {G : Gd} {P H : Hp} {vs : List V} {d : D} {ds : List D} {A : List Addr} (r : RelL G P H vs (d :: ds) A) : A = [] → ∃ v ws, vs = v :: ws ∧ Rel G P H v d [] ∧ RelL G P H ws ds [] := by
  intro h
  cases r with
  | @cons v _ A0 ws _ B0 r0 t0 =>
    obtain ⟨e1, e2⟩ := List.append_eq_nil_iff.mp h
    subst e1
    subst e2
    exact ⟨v, ws, rfl, r0, t0⟩
/-! ### the meaning -/
def key1D : D → PyData
  | .tup (.int i :: _) => .int i
  | _ => .none
def is1D : D → Bool
  | .tup (.int i :: _) => true
  | _ => false
def key2D : D → PyData
  | .tup (.int i :: .str x :: _) => .tuple [.int i, .str x]
  | _ => .none
def is2D : D → Bool
  | .tup (.int i :: .str x :: _) => true
  | _ => false
/-- sorted by a key -/
def fSortK (rev : Bool) (key : D → PyData) (is : D → Bool) : D → Option D
  | .lst _ ds => if cleanL ds = true ∧ ds.all is = true then some (.lst true (ds.mergeSort (PySem.W.dataLe rev key))) else none
  | _ => none
/-- a key: what stands in the heap, what is sorted -/
structure KeyOk (key : D → PyData) (is : D → Bool) (KA : Heap → Value → PyData → Prop) : Prop where
  at_ : ∀ {X : Cx} {pn : List (Addr × Obj)} {σ : Sl} {P H : Hp} {s : Shared} {v : V} {u : Value} {d : D}, Inv X pn σ H s → Under P H → Rel (gd X) P H v d [] → is d = true → RelV v u → KA s.heap u (key d)
  alike : ∀ d d', is d = true → is d' = true → PySem.W.alike (key d) (key d') = true
  sorts : ∀ ds : List D, (∀ d ∈ ds, is d = true) → PySem.W.Sortable (ds.map key)
  deep : ∀ d, (key d).depth ≤ 100
  keeps : ∀ (h h' : Heap) (v : Value) (k : PyData), (∀ b o, h.get? b = some o → h'.get? b = some o) → KA h v k → KA h' v k
theorem key1_ok : KeyOk key1D is1D Key1 where
  at_ := fun {X pn σ P H s v u d} J un r h rv => by
    unfold is1D at h
    split at h
    · rename_i i ds
      cases r with
      | @tup a xs _ _ q r =>
        obtain ⟨v0, ws, rfl, r0, _⟩ := relL_cons r rfl
        cases r0
        obtain ⟨its, ri, ht, _⟩ := J.tuple (un.seqT q)
        cases ri with
        | @cons _ u0 _ us0 r1 t1 =>
          obtain ⟨t, e⟩ := r1
          have e : u0 = Value.int i t := e
          subst e
          have rv : u = Value.ref a := rv
          exact ⟨a, _, i, t, rv, ht, rfl, rfl⟩
    · cases h
  alike := fun d d' h h' => by
    unfold is1D at h h'
    split at h
    · split at h'
      · simp [key1D, PySem.W.alike]
      · cases h'
    · cases h
  sorts := fun ds h => .inr fun k hk => by
    obtain ⟨d, hd, rfl⟩ := List.mem_map.mp hk
    have := h d hd
    unfold is1D at this
    split at this
    · simp [key1D]
    · cases this
  deep := fun d => by
    unfold key1D
    split <;> simp [PyData.depth]
  keeps := key1_st
theorem key2_ok : KeyOk key2D is2D Key2 where
  at_ := fun {X pn σ P H s v u d} J un r h rv => by
    unfold is2D at h
    split at h
    · rename_i i x ds
      cases r with
      | @tup a xs _ _ q r =>
        obtain ⟨v0, ws, rfl, r0, r'⟩ := relL_cons r rfl
        obtain ⟨v1, ws1, rfl, r1, _⟩ := relL_cons r' rfl
        cases r0
        cases r1
        obtain ⟨its, ri, ht, _⟩ := J.tuple (un.seqT q)
        cases ri with
        | @cons _ u0 _ us0 q1 t1 =>
          cases t1 with
          | @cons _ u3 _ us3 q3 t3 =>
            obtain ⟨t, e⟩ := q1
            have e : u0 = Value.int i t := e
            subst e
            obtain ⟨t', e'⟩ := q3
            have e' : u3 = Value.str x t' := e'
            subst e'
            have rv : u = Value.ref a := rv
            exact ⟨a, _, i, t, x, t', rv, ht, rfl, rfl, rfl⟩
    · cases h
  alike := fun d d' h h' => by
    unfold is2D at h h'
    split at h
    · split at h'
      · simp [key2D, PySem.W.alike, PySem.W.alikeAll]
      · cases h'
    · cases h
  sorts := fun ds h => .inl fun k hk => by
    obtain ⟨d, hd, rfl⟩ := List.mem_map.mp hk
    have := h d hd
    unfold is2D at this
    split at this
    · exact ⟨_, _, rfl⟩
    · cases this
  deep := fun d => by
    unfold key2D
    split <;> simp [PyData.depth, PyData.depthAll]
  keeps := key2_st
end RL

/-! RL: sorted(xs, key=..) as an expression. -/
namespace RL
open PySem PySem.Spec PyProof.Rows L2
section
variable {X : Cx} {W : WX} {a : Expr} {S : Env → Res D} {p pos lpos kpos : Pos} {key : D → PyData} {is : D → Bool} {KA : Heap → Value → PyData → Prop}
/-- the list that is sorted, known -/
def SrcK (X : Cx) (P H : Hp) (is : D → Bool) (vs : List V) (H1 : Hp) (R : List D → Hp → Hp → List V → Prop) : Prop :=
  ∃ l xs ds P1, vs = [V.ref l] ∧ Under P1 H1 ∧ Marks (gd X) P1 ∧ Ext P H P1 H1 [] ∧ RelL (gd X) P1 H1 xs ds [] ∧ (∀ d ∈ ds, is d = true) ∧ (∀ P2 H2, Ext P1 H1 P2 H2 [] → SqL X.K H2 l xs) ∧ R ds P1 H1 xs
/-- sorted pairs -/
theorem sort_rel {rev : Bool} {G : Gd} {P H : Hp} {xs : List V} {ds : List D} (r : RelL G P H xs ds []) : RelL G P H (((xs.zip ds).mergeSort (PySem.W.dataLe rev fun b => key b.2)).map (·.1)) (ds.mergeSort (PySem.W.dataLe rev key)) [] := by
  have hl := r.length
  have e : ds.mergeSort (PySem.W.dataLe rev key) = ((xs.zip ds).mergeSort (PySem.W.dataLe rev fun b => key b.2)).map (·.2) := by
    have hz : (xs.zip ds).map (·.2) = ds := List.map_snd_zip (by omega)
    have z := List.map_mergeSort (r := PySem.W.dataLe rev fun b : V × D => key b.2) (s := PySem.W.dataLe rev key) (f := fun b : V × D => b.2) (l := xs.zip ds) fun a _ b _ => rfl
    rw [z, hz]
  rw [e]
  have pr : ∀ b ∈ (xs.zip ds).mergeSort (PySem.W.dataLe rev fun b => key b.2), Rel G P H b.1 b.2 [] := by
    intro b hb
    have hb := (List.mergeSort_perm _ _).subset hb
    have all : ∀ {xs : List V} {ds : List D} {A : List Addr}, RelL G P H xs ds A → A = [] → ∀ b ∈ xs.zip ds, Rel G P H b.1 b.2 [] := by
      intro xs
      induction xs with
      | nil => intro ds A r _ b hb; simp at hb
      | cons x xs ih =>
        intro ds A r hA b hb
        cases ds with
        | nil => simp at hb
        | cons d ds =>
          obtain ⟨v, ws, e, r0, r1⟩ := relL_cons r hA
          cases e
          rcases List.mem_cons.mp hb with rfl | hb
          · exact r0
          · exact ih r1 rfl b hb
    exact all r rfl b hb
  generalize (xs.zip ds).mergeSort (PySem.W.dataLe rev fun b => key b.2) = bs at pr
  induction bs with
  | nil => exact .nil
  | cons b bs ih => exact .cons (A := []) (B := []) (pr b List.mem_cons_self) (ih fun c hc => pr c (List.mem_cons_of_mem _ hc))
theorem src_of {P H : Hp} {v : V} {d : D} {B : List Addr} {P1 H1 : Hp} {ds' : D} {rev : Bool} (un : Under P H) (mk : Marks (gd X) P) (e : Ext P H P1 H1 []) (r : Rel (gd X) P1 H1 v d B) (o : ∀ b ∈ B, P1 b = none) (hf : fSortK rev key is d = some ds') :
    ∃ ds, ds' = .lst true (ds.mergeSort (PySem.W.dataLe rev key)) ∧ SrcK X P H is [v] H1 fun es _ _ _ => es = ds := by
  cases r with
  | @lstF l xs ds hP rl =>
    simp only [fSortK] at hf
    split at hf
    · rename_i c
      cases hf
      refine ⟨ds, rfl, l, xs, ds, P1, rfl, e.und, mk.mono e.same, e, rl, List.all_eq_true.mp c.2, fun P2 H2 x => ?_, rfl⟩
      exact SqL.of (x.und.lst (x.same _ _ hP))
    · cases hf
  | @lstO l xs ds B0 hH rl =>
    simp only [fSortK] at hf
    split at hf
    · rename_i c
      cases hf
      refine ⟨ds, rfl, l, xs, ds, P1, rfl, e.und, mk.mono e.same, e, rl.nil_of c.1, List.all_eq_true.mp c.2, fun P2 H2 x => ?_, rfl⟩
      exact SqL.of (x.keep _ _ hH (o l List.mem_cons_self) (by simp))
    · cases hf
  | _ => simp [fSortK] at hf
/-- the sort, all evaluated -/
theorem sort_end {rev : Bool} {pn : List (Addr × Obj)} {σ : Sl} {P H P1 H1 P2 H2 : Hp} {s : Shared} {l : Addr} {xs : List V} {ds : List D} {Q : VK} {f : Value} {kw : List (Str × Value)} (K : KeyOk key is KA) (un : Under P H) (h : Post (gd X) P H Q (.lst true (ds.mergeSort (PySem.W.dataLe rev key))))
    (e1 : Ext P H P1 H1 []) (e2 : Ext P1 H1 P2 H2 []) (J : Inv X pn σ H2 s) (hr : Room 0 X.A) (rl : RelL (gd X) P1 H1 xs ds []) (hi : ∀ d ∈ ds, is d = true) (sq : SqL X.K H2 l xs)
    (ha1 : argsOk "sorted" ⟨[.ref l], kw⟩) (ha2 : ∀ x, argsOk "list.sort" ⟨[.ref x], kw⟩) (ht : ∀ x, Builtin.«list.sort» ⟨[.ref x], kw⟩ = ksk_tree x f rev) (tells : Tells X.prog X.w X.A.in1.in1 f s KA) :
    wpAny (model X.prog X.w) X.A (call (.builtin "sorted") [.ref l] kw) (EP X pn σ Q) X.xe s := by
  have r2 : RelL (gd X) P2 H2 xs ds [] := rl.mono e2.same (by simp)
  have hl := r2.length
  have snd : (xs.zip ds).map (fun b => key b.2) = ds.map key := by
    have z : (xs.zip ds).map (fun b => key b.2) = ((xs.zip ds).map (·.2)).map key := by rw [List.map_map]; rfl
    rw [z, List.map_snd_zip (by omega)]
  refine run_sortK (KA := KA) (key := key) (ds := ds) J (by have := hr.un; omega) sq hl (fun i v u d h1 h2 rv => ?_) ?_ ?_ K.deep K.keeps ha1 ha2 ht tells fun q hq => ?_
  · obtain ⟨v', B, h3, h4, h5⟩ := r2.get h2
    rw [h1] at h3
    cases h3
    have eB : B = [] := List.eq_nil_iff_forall_not_mem.mpr fun b hb => by have := h5 b hb; simp at this
    subst eB
    exact K.at_ J e2.und h4 (hi d (List.mem_of_getElem? h2)) rv
  · rw [snd]
    intro k hk k' hk'
    obtain ⟨d, hd, rfl⟩ := List.mem_map.mp hk
    obtain ⟨d', hd', rfl⟩ := List.mem_map.mp hk'
    exact K.alike d d' (hi d hd) (hi d' hd')
  · rw [snd]
    exact K.sorts ds hi
  · have e3 := ext_own (o := .lst (((xs.zip ds).mergeSort (PySem.W.dataLe rev fun b => key b.2)).map (·.1))) e2.und hq
    have e12 := e1.trans un e2
    exact h _ _ _ [q] (e12.trans un e3) (.lstO upd_same ((sort_rel (rev := rev) (key := key) r2).mono e3.same (by simp))) ⟨by simp, fun b hb => by
      rw [List.mem_singleton.mp hb]
      exact ⟨e12.free un hq, e2.und.free hq⟩⟩
/-- sorted(xs, key=lambda x: ..) -/
theorem e_sortLam {k : Nat} {c T : Addr} {params : Arguments} {body : Expr} {scope : Scope} {x : Str} (K : KeyOk key is KA) (hr : GRoom k X.A) (hm : X.mg "sorted" = none) (ha : BOk X W a S) (L : LamAt X c T) (B : BodyTells X.prog X.w body x KA)
    (hdef : defaultsOf params X.env = ([], []) := by rfl) (hbind : ∀ (q : Str) (cl : List (Str × Addr)) (pm cv ctv v : Value), bindArgs (PySem.W.kla_fn "<lambda>" q params body scope cl pm cv ctv) ⟨[v], []⟩ = pure [(x, v)] := by intros; rfl)
    (hk : scope.kind = .function := by rfl) (hco : scope.isCoroutine = false := by rfl) (hge : scope.isGenerator = false := by rfl) (hloc : scope.names.lookup x = some .local := by rfl) (hown : ∀ y ∈ scope.names, y.2 ≠ .cell ∧ y.2 ≠ .free := by decide)
    (hg : Gl X "sorted" := by rfl) (hs : starEach [a] X.env = (false, eval a X.env) :: starEach [] X.env := by rfl) (he : backTo pos (starEach [a] X.env) = (false, eval a X.env) :: backTo pos (starEach [] X.env) := by rfl)
    (hpl : (backTo pos (starEach [a] X.env)).any (·.1) = false := by rfl) :
    EOk X W (.Call (.Name "sorted" p) [a] [⟨some "key", .Lambda params body scope lpos, kpos⟩] pos) (s1 (fSortK false key is) S) := ⟨⟨fun pn s σ H Q I ⟨P, ρ, A, st, h⟩ => by
  have h1 : tCons (tBo (gd X) W S) tNil σ H fun vs H1 => SrcK X P H is vs H1 fun ds _ _ _ => Post (gd X) P H Q (.lst true (ds.mergeSort (PySem.W.dataLe false key))) := by
    refine ⟨P, ρ, A, st, ?_⟩
    unfold s1 at h
    cases hsS : S ρ with
    | bad => simp only [hsS, Res.bind] at h
    | exc z => simp only [hsS, Res.bind] at h; exact h
    | ok d =>
      simp only [hsS, Res.bind] at h
      intro v P1 H1 B1 e1 r o
      cases hf : fSortK false key is d with
      | none => simp only [hf, opt] at h
      | some z =>
        simp only [hf, opt] at h
        obtain ⟨ds, rfl, l, xs, ds2, P2, q1, q2, q3, q4, q5, q6, q7, q8⟩ := src_of st.und st.mks e1 r o hf
        subst q8
        exact ⟨l, xs, ds2, P2, q1, q2, q3, q4, q5, q6, q7, h⟩
  refine wpAny_Call_Name_kw (ld_blt I hg hm (show bootBuiltins "sorted" = some (.builtin "sorted") by decide +kernel) ?_ (by decide) (by decide))
  refine PyProof.Rows.callWith_kw (thn ((pa_cons ha.pe pa_nil hs).run pos pn s σ H _ I h1) fun us s1 ⟨vs, H1, I1, r1, q1⟩ => ?_) he hpl (by rfl) (by rfl)
  obtain ⟨l, xs, ds, P1, rfl, un1, mk1, e1, rl, hi, sq, hq⟩ := q1
  obtain ⟨u, rfl, ru⟩ := vals1 r1
  cases ru
  have hT := mk1 _ L.inT
  obtain ⟨ps, hps⟩ := tab_is un1 hT
  show wpAny _ _ (evalAll ((do let v ← eval (.Lambda params body scope lpos) X.env; standAt pos; pure v) :: [])) _ _ s1
  refine wpAny_evalAll_cons (wpAny_bind (lam_made I1 un1 L hps hT hdef (fun y hy e => absurd e (hown y hy).2) fun f c' pm ctv P2 H2 s2 I2 e2 hf hc => wpAny_bind (wpAny_standAt (wpAny_pure (wpAny_evalAll_nil ?_)))))
  have hc2 := ext_of e2.und hc
  obtain ⟨⟨oc, ws, t, hoc, hd, hv⟩, _⟩ := I2.hok c' _ hc2
  have tl : Tells X.prog X.w X.A.in1.in1 (.ref f) s2 KA := tells_lam (fd := PySem.W.kla_fn "<lambda>" (X.env.qual ++ "<lambda>") params body scope (cloFrom X.env.cells scope.names []) pm (.ref c') ctv) hr.r.depth hf rfl hco hge hk rfl ⟨c', oc, ws, t, rfl, hoc, hd, hv⟩ I2.nolimit (fun v => hbind _ _ _ _ _ v) hloc (fun y hy => (hown y hy).1) B K.keeps
  exact sort_end (f := .ref f) (kw := [(Str.ofString "key", .ref f)]) K st.und hq e1 e2 I2 (hr.r.mono (Nat.zero_le _)) rl hi (sq _ _ e2) (ksk_s1 _ _) (fun _ => ksk_l1 _ _) (fun x => ksk_t1 f x) tl⟩⟩
end
end RL

/-! RL: what a def with a lambda needs of the head; sorted by a def. -/
namespace RL
open PySem PySem.Spec PyProof.Rows L2
/-- a def's code object, known -/
structure LamCod (K : PySem.W.Frag) (mg : Str → Option Value) (base : Heap) (f : Addr) (qual : Str) : Prop where
  ex : ∃ c T o, (∀ cdv, Cod K f cdv → cdv = .ref c) ∧ tabOf o = some (T, qual ++ ".<locals>." ++ "<lambda>") ∧ (T, qual ++ ".<locals>." ++ "<lambda>") ∈ tabsOf K ∧ base.get? c = some o ∧ c ≠ T ∧ base.BuiltinsAt mg T ∧ mainGlobals ≠ T
theorem lamAt_of {P : Program} {w : World} {K : PySem.W.Frag} {mg : Str → Option Value} {base : Heap} {f : Addr} {N : List Str} {qual : Str} {sc : Scope} {cdv : Value} {A : Around} {outer : List PySem.Env} {s : Shared} {H : Hp} {E : XK}
    (lam : LamCod K mg base f qual) (hc : Cod K f cdv) : ∃ c T, LamAt (cxOf (L2.CX P w) P w K mg base N qual sc f cdv A outer s H E) c T := by
  obtain ⟨c, T, o, h1, h2, h3, h4, h5, h6, h7⟩ := lam.ex
  have e := h1 cdv hc
  exact ⟨c, T, e, tabOf_code h2 h4 h5, h6, h7, h3⟩
/-- the fact -/
def fLam (x qual : Str) : FaB := fun K => (He.Fa.glo x).ok K && (match K.lookup (He.ga K x) with
  | some ⟨_, _, .func fd, _⟩ => (match fd.code with
    | .ref c => (match K.lookup c with
      | some o => (match tabOf o with
        | some (_, q) => decide (q = qual ++ ".<locals>." ++ "<lambda>")
        | none => false)
      | none => false)
    | _ => false)
  | _ => false)
theorem lam_ok {K : PySem.W.Frag} {mg : Str → Option Value} {base h : Heap} {f : Addr} {x qual : Str} (X : K.In h) (G : h.Ns mainGlobals mg) (kb : K.In base) (tb : TabsB K mg base) (c1 : fLam x qual K = true) (g : mg x = some (.ref f)) : LamCod K mg base f qual := by
  obtain ⟨c1, c2⟩ := He.ba c1
  have e := g.symm.trans (He.glo_ok X G c1)
  cases e
  cases q1 : K.lookup (He.ga K x) with
  | none => rw [q1] at c2; cases c2
  | some o1 =>
    rw [q1] at c2
    obtain ⟨oc, od, dat, osl⟩ := o1
    cases dat with
    | func fd =>
      simp only at c2
      cases q2 : fd.code with
      | ref c =>
        rw [q2] at c2
        simp only at c2
        cases q3 : K.lookup c with
        | none => rw [q3] at c2; cases c2
        | some o =>
          rw [q3] at c2
          simp only at c2
          cases q4 : tabOf o with
          | none => rw [q4] at c2; cases c2
          | some Tq =>
            obtain ⟨T, q⟩ := Tq
            rw [q4] at c2
            have eq : q = qual ++ ".<locals>." ++ "<lambda>" := of_decide_eq_true c2
            subst eq
            have inT : (T, qual ++ ".<locals>." ++ "<lambda>") ∈ tabsOf K := List.mem_filterMap.mpr ⟨(c, o), look_mem q3, q4⟩
            obtain ⟨b1, b2, b3⟩ := tb _ inT
            refine ⟨c, T, o, fun cdv hc => ?_, q4, inT, kb _ _ q3, fun z => ?_, b1, b2⟩
            · obtain ⟨oc', od', fd', osl', e1, e2⟩ := hc
              rw [q1] at e1
              cases e1
              rw [← e2, q2]
            · rw [z] at q3
              have b3 : K.lookup T = none := b3
              rw [b3] at q3
              cases q3
      | _ => rw [q2] at c2; cases c2
    | _ => cases c2
/-! ### a def as the key -/
def retE (st : Stmt) : Expr := match defBody st with
  | [.Return (some e) _] => e
  | _ => .Constant .none 0 ⟨0, 0, 0, 0⟩
structure KfOk (K : PySem.W.Frag) (mg : Str → Option Value) (name x : Str) (body : Expr) : Prop where
  ex : ∃ g oc od osl fd rp, mg name = some (.ref g) ∧ K.lookup g = some ⟨oc, od, .func fd, osl⟩ ∧ fd.scope.isCoroutine = false ∧ fd.scope.isGenerator = false ∧ fd.scope.kind = .function ∧ fd.body = .stmts [.Return (some body) rp] ∧
    PySem.W.codeIn K fd.code fd.qualname = true ∧ (∀ (s : Shared) (v : Value), BindsTo s fd ⟨[v], []⟩ [(x, v)]) ∧ fd.scope.names.lookup x = some .local ∧ ∀ y ∈ fd.scope.names, y.2 ≠ .cell
theorem kf_of {K : PySem.W.Frag} {mg : Str → Option Value} {name x qual : Str} {st : Stmt} {f : Addr} {fd : FuncData} {body : Expr} {rp : Pos} (F : Fun K name qual st f fd) (g : mg name = some (.ref f)) (hb : ∀ (s : Shared) (v : Value), BindsTo s fd ⟨[v], []⟩ [(x, v)])
    (e1 : defBody st = [.Return (some body) rp] := by rfl) (e2 : (defScope st).isCoroutine = false := by rfl) (e3 : (defScope st).isGenerator = false := by rfl) (e4 : (defScope st).kind = .function := by rfl) (e5 : (defScope st).names.lookup x = some .local := by rfl) (e6 : ∀ y ∈ (defScope st).names, y.2 ≠ .cell := by decide +kernel) : KfOk K mg name x body := by
  obtain ⟨oc, od, kV, doc, pm, an, cdv, ct, osl, rfl, lk, hcd⟩ := F.ex
  exact ⟨f, oc, od, osl, _, rp, g, lk, e2, e3, e4, congrArg _ e1, hcd, hb, e5, e6⟩
section
variable {X : Cx} {W : WX} {a : Expr} {S : Env → Res D} {p pos kpos rpos p2 p3 : Pos} {key : D → PyData} {is : D → Bool} {KA : Heap → Value → PyData → Prop}
/-- sorted(xs, key=f, reverse=True) -/
theorem e_sortDef {k : Nat} {name x : Str} {body : Expr} {j : Nat} (K : KeyOk key is KA) (hr : GRoom k X.A) (hm : X.mg "sorted" = none) (ha : BOk X W a S) (F : KfOk X.K X.mg name x body) (B : BodyTells X.prog X.w body x KA)
    (hg : Gl X "sorted" := by rfl) (hgn : Gl X name := by rfl) (hs : starEach [a] X.env = (false, eval a X.env) :: starEach [] X.env := by rfl) (he : backTo pos (starEach [a] X.env) = (false, eval a X.env) :: backTo pos (starEach [] X.env) := by rfl)
    (hpl : (backTo pos (starEach [a] X.env)).any (·.1) = false := by rfl) (hdb : (name == ("__debug__" : Str)) = false := by decide) :
    EOk X W (.Call (.Name "sorted" p) [a] [⟨some "key", .Name name p2, kpos⟩, ⟨some "reverse", .Constant (.bool true) j p3, rpos⟩] pos) (s1 (fSortK true key is) S) := ⟨⟨fun pn s σ H Q I ⟨P, ρ, A, st, h⟩ => by
  obtain ⟨g, oc, od, osl, fd, rp, f1, f2, f3, f4, f5, f6, f7, f8, f9, f10⟩ := F.ex
  have h1 : tCons (tBo (gd X) W S) tNil σ H fun vs H1 => SrcK X P H is vs H1 fun ds _ _ _ => Post (gd X) P H Q (.lst true (ds.mergeSort (PySem.W.dataLe true key))) := by
    refine ⟨P, ρ, A, st, ?_⟩
    unfold s1 at h
    cases hsS : S ρ with
    | bad => simp only [hsS, Res.bind] at h
    | exc z => simp only [hsS, Res.bind] at h; exact h
    | ok d =>
      simp only [hsS, Res.bind] at h
      intro v P1 H1 B1 e1 r o
      cases hf : fSortK true key is d with
      | none => simp only [hf, opt] at h
      | some z =>
        simp only [hf, opt] at h
        obtain ⟨ds, rfl, l, xs, ds2, P2, q1, q2, q3, q4, q5, q6, q7, q8⟩ := src_of st.und st.mks e1 r o hf
        subst q8
        exact ⟨l, xs, ds2, P2, q1, q2, q3, q4, q5, q6, q7, h⟩
  refine wpAny_Call_Name_kw (ld_blt I hg hm (show bootBuiltins "sorted" = some (.builtin "sorted") by decide +kernel) ?_ (by decide) (by decide))
  refine PyProof.Rows.callWith_kw (thn ((pa_cons ha.pe pa_nil hs).run pos pn s σ H _ I h1) fun us s1 ⟨vs, H1, I1, r1, q1⟩ => ?_) he hpl (by rfl) (by rfl)
  obtain ⟨l, xs, ds, P1, rfl, un1, mk1, e1, rl, hi, sq, hq⟩ := q1
  obtain ⟨u, rfl, ru⟩ := vals1 r1
  cases ru
  show wpAny _ _ (evalAll [(do let v ← eval (.Name name p2) X.env; standAt pos; pure v), (do let v ← eval (.Constant (.bool true) j p3) X.env; standAt pos; pure v)]) _ _ s1
  refine wpAny_evalAll_cons (wpAny_bind (ld_glob I1 hgn f1 (wpAny_bind (wpAny_standAt (wpAny_pure ?_))) hdb))
  refine wpAny_evalAll_cons (wpAny_bind (Constant_bool (wpAny_bind (wpAny_standAt (wpAny_pure (wpAny_evalAll_nil ?_))))))
  have kin : X.K.In s1.heap := I1.kIn
  have tl : Tells X.prog X.w X.A.in1.in1 (.ref g) s1 KA := tells_def hr.r.depth (kin _ _ f2) rfl f3 f4 f5 f6 (PySem.W.codeRec_of kin f7) I1.nolimit f8 f9 f10 B K.keeps
  exact sort_end (f := .ref g) (kw := [(Str.ofString "key", .ref g), (Str.ofString "reverse", .bool true)]) K st.und hq e1 (Ext.refl un1) I1 (hr.r.mono (Nat.zero_le _)) rl hi (sq _ _ (Ext.refl un1)) (ksk_s2 _ _ _) (fun _ => ksk_l2 _ _ _) (fun x => ksk_t2 g x true) tl⟩⟩
end
end RL

/-! RL: sorted(a list of whole numbers). -/
namespace RL
open PySem PySem.Spec PyProof.Rows L2
/-- rising -/
def upI (ns : List Int) : List Int := ns.mergeSort fun a b => decide (a ≤ b)
theorem upI_perm (ns : List Int) : (upI ns).Perm ns := List.mergeSort_perm _ _
theorem upI_up (ns : List Int) : (upI ns).Pairwise (· ≤ ·) := by
  have := List.pairwise_mergeSort (le := fun a b : Int => decide (a ≤ b)) (fun a b c h1 h2 => by simp only [decide_eq_true_eq] at *; omega) (fun a b => by simp only [Bool.or_eq_true, decide_eq_true_eq]; omega) ns
  exact this.imp fun h => by simpa using h
theorem up_eq {xs ys : List Int} (p : xs.Perm ys) (h1 : xs.Pairwise (· ≤ ·)) (h2 : ys.Pairwise (· ≤ ·)) : xs = ys :=
  List.Perm.eq_of_pairwise (le := (· ≤ ·)) (fun a b _ _ h h' => by omega) h1 h2 p
def fSortI : D → Option D
  | .lst _ ds => (intsD ds).map fun ns => .lst true ((upI ns).map .int)
  | _ => none
theorem c_sortI {X : Cx} : CallR X (.builtin "sorted") (rC (gd X) (on1 fSortI)) := CallR.imp cr_sortedI fun xs H Q h => by
  obtain ⟨v, P, d, B, z, rfl, un, r, o, hf, q⟩ := rC1 h
  have fin : ∀ {a : Addr} {vs : List V} {ds : List D} {B0 : List Addr}, v = .ref a → SqL X.K H a vs → RelL (gd X) P H vs ds B0 → ((intsD ds).map fun ns => D.lst true ((upI ns).map .int)) = some z → ∃ (a : Addr) (ns : List Int), [v] = [V.ref a] ∧ SqL X.K H a (ns.map V.int) ∧
      ∀ (ns' : List Int) (p : Addr), ns'.Perm ns → ns'.Pairwise (· ≤ ·) → H p = none → Q (.ref p) (upd H p (.lst (ns'.map V.int))) := by
    intro a vs ds B0 ev hs rl hz
    cases hi : intsD ds with
    | none => rw [hi] at hz; cases hz
    | some ns =>
      rw [hi] at hz
      cases hz
      have e := ints_of_rel rl hi
      subst e
      refine ⟨a, ns, by rw [ev], hs, fun ns' p h1 h2 hp => ?_⟩
      have e := up_eq (h1.trans (upI_perm ns).symm) h2 (upI_up ns)
      subst e
      exact post_lst un q (ints_rel _) hp
  cases r with
  | @lstF a vs ds q1 r => exact fin rfl (un.seqL (SqL.of q1)) r (by simpa [fSortI] using hf)
  | @lstO a vs ds B0 q1 r => exact fin rfl (SqL.of q1) r (by simpa [fSortI] using hf)
  | _ => simp [fSortI] at hf
end RL

/-! RL: calls of defs that keep nothing of what they are lent. -/
namespace RL
open PySem PySem.Spec PyProof.Rows L2
mutual
/-- no dict is owned there -/
def ownOk : D → Bool
  | .tup ds => ownOkL ds
  | .lst true ds => ownOkL ds
  | .dct true _ _ => false
  | .obj true _ _ ds => ownOkL ds
  | _ => true
def ownOkL : List D → Bool
  | [] => true
  | d :: ds => ownOk d && ownOkL ds
end
mutual
/-- nothing there is a frozen list, dict, object -/
def noFrz : D → Bool
  | .tup ds => noFrzL ds
  | .tux ds => noFrzL ds
  | .lst o ds => o && noFrzL ds
  | .dct o _ ds => o && noFrzL ds
  | .obj o _ _ ds => o && noFrzL ds
  | .exn _ _ _ => false
  | .scr _ => false
  | _ => true
def noFrzL : List D → Bool
  | [] => true
  | d :: ds => noFrz d && noFrzL ds
end
section
variable {G : Gd} {P P' H H' : Hp}
def Kind (o : Option HO) : Prop := (∃ xs, o = some (.lst xs)) ∨ ∃ C dx fs, o = some (.ins C dx fs)
mutual
theorem Rel.kind : ∀ {v : V} {d : D} {A : List Addr}, Rel G P H v d A → ownOk d = true → ∀ b ∈ A, Kind (H b)
  | _, _, _, .tup _ r, h, b, hb => RelL.kind r (by simpa [ownOk] using h) b hb
  | _, _, _, .lstO q r, h, b, hb => (List.mem_cons.mp hb).elim (fun e => e ▸ .inl ⟨_, q⟩) (RelL.kind r (by simpa [ownOk] using h) b)
  | _, _, _, .dctO q _ r, h, b, hb => by simp [ownOk] at h
  | _, _, _, .objO _ q _ r, h, b, hb => (List.mem_cons.mp hb).elim (fun e => e ▸ .inr ⟨_, _, _, q⟩) (RelL.kind r (by simpa [ownOk] using h) b)
  | _, _, _, .non, _, b, hb => by simp at hb
  | _, _, _, .bl _, _, b, hb => by simp at hb
  | _, _, _, .int _, _, b, hb => by simp at hb
  | _, _, _, .str _, _, b, hb => by simp at hb
  | _, _, _, .lstF _ _, _, b, hb => by simp at hb
  | _, _, _, .scr _, _, b, hb => by simp at hb
  | _, _, _, .tux _ _ _, _, b, hb => by simp at hb
  | _, _, _, .dctF _ _ _, _, b, hb => by simp at hb
  | _, _, _, .objF _ _ _ _, _, b, hb => by simp at hb
  | _, _, _, .exn _ _ _, _, b, hb => by simp at hb
theorem RelL.kind : ∀ {vs : List V} {ds : List D} {A : List Addr}, RelL G P H vs ds A → ownOkL ds = true → ∀ b ∈ A, Kind (H b)
  | _, _, _, .nil, _, b, hb => by simp at hb
  | _, _, _, .cons r t, h, b, hb => by
    simp only [ownOkL, Bool.and_eq_true] at h
    exact (List.mem_append.mp hb).elim (Rel.kind r h.1 b) (RelL.kind t h.2 b)
end
/-- P without A -/
def less (P : Hp) (A : List Addr) : Hp := fun b => if b ∈ A then none else P b
theorem less_in {A : List Addr} {b : Addr} (h : b ∈ A) : less P A b = none := if_pos h
theorem less_out {A : List Addr} {b : Addr} (h : b ∉ A) : less P A b = P b := if_neg h
theorem less_some {A : List Addr} {b : Addr} {o : HO} (h : less P A b = some o) : b ∉ A ∧ P b = some o := by
  by_cases hb : b ∈ A
  · rw [less_in hb] at h; cases h
  · rw [less_out hb] at h; exact ⟨hb, h⟩
theorem less_not {A : List Addr} (hA : ∀ b ∈ A, Kind (P b)) {b : Addr} {o : HO} (h : P b = some o) (h1 : ∀ xs, o ≠ .lst xs) (h2 : ∀ C dx fs, o ≠ .ins C dx fs) : less P A b = some o := by
  rw [less_out]
  · exact h
  · intro hb
    rcases hA b hb with ⟨xs, z⟩ | ⟨C, dx, fs, z⟩
    · rw [h] at z; cases z; exact h1 _ rfl
    · rw [h] at z; cases z; exact h2 _ _ _ rfl
mutual
theorem Rel.less {A : List Addr} (hA : ∀ b ∈ A, Kind (P b)) : ∀ {v : V} {d : D} {B : List Addr}, Rel G P H v d B → noFrz d = true → Rel G (RL.less P A) H v d B
  | _, _, _, .non, _ => .non
  | _, _, _, .bl b, _ => .bl b
  | _, _, _, .int i, _ => .int i
  | _, _, _, .str x, _ => .str x
  | _, _, _, .tup q r, h => .tup (by
      rcases q with (q | ⟨o, q⟩) | q
      · exact .inl (.inl (less_not hA q (fun _ z => by cases z) (fun _ _ _ z => by cases z)))
      · exact .inl (.inr ⟨o, less_not hA q (fun _ z => by cases z) (fun _ _ _ z => by cases z)⟩)
      · exact .inr q) (RelL.less hA r (by simpa [noFrz] using h))
  | _, _, _, .tux q e r, h => .tux (less_not hA q (fun _ z => by cases z) (fun _ _ _ z => by cases z)) e (RelL.less hA r (by simpa [noFrz] using h))
  | _, _, _, .scr _, h => by simp [noFrz] at h
  | _, _, _, .lstF _ _, h => by simp [noFrz] at h
  | _, _, _, .lstO q r, h => .lstO q (RelL.less hA r (by simpa [noFrz] using h))
  | _, _, _, .dctF _ _ _, h => by simp [noFrz] at h
  | _, _, _, .dctO q l r, h => .dctO q l (RelL.less hA r (by simpa [noFrz] using h))
  | _, _, _, .objF _ _ _ _, h => by simp [noFrz] at h
  | _, _, _, .objO c q l r, h => .objO c q l (RelL.less hA r (by simpa [noFrz] using h))
  | _, _, _, .exn _ _ _, h => by simp [noFrz] at h
theorem RelL.less {A : List Addr} (hA : ∀ b ∈ A, Kind (P b)) : ∀ {vs : List V} {ds : List D} {B : List Addr}, RelL G P H vs ds B → noFrzL ds = true → RelL G (RL.less P A) H vs ds B
  | _, _, _, .nil, _ => .nil
  | _, _, _, .cons r t, h => by
    simp only [noFrzL, Bool.and_eq_true] at h
    exact .cons (Rel.less hA r h.1) (RelL.less hA t h.2)
end
theorem XRel.less {A : List Addr} (hA : ∀ b ∈ A, Kind (P b)) {cls : Value} {dx : Option Addr} {x : D} (h : XRel G P cls dx x) : XRel G (RL.less P A) cls dx x := by
  obtain ⟨c, ns, ds, C, e1, e2, e3, e4⟩ := h
  refine ⟨c, ns, ds, C, e1, e2, e3, ?_⟩
  rcases e4 with z | ⟨z0, d, vs, z1, z2, z3, z4⟩
  · exact .inl z
  · exact .inr ⟨z0, d, vs, z1, less_not hA z2 (fun _ z => by cases z) (fun _ _ _ z => by cases z), z3, z4⟩
/-- what was lent comes back -/
theorem lend_ext {P H P1 H1 P' H' : Hp} {B : List Addr} (u : Under P H) (e : Ext P H P1 H1 []) (off : ∀ b ∈ B, P1 b = none) (hk : ∀ b ∈ B, Kind (H1 b)) (e3 : Ext (give P1 H1 B) H1 P' H' []) :
    (∀ b ∈ B, Kind (P' b)) ∧ Ext P H (RL.less P' B) H' [] := by
  have s2 : Same P1 (give P1 H1 B) := give_same off
  have hA : ∀ b ∈ B, P' b = H1 b := fun b hb => by
    rcases hk b hb with ⟨xs, z⟩ | ⟨C, dx, fs, z⟩
    · rw [z]; exact e3.same _ _ (by rw [give_in hb, z])
    · rw [z]; exact e3.same _ _ (by rw [give_in hb, z])
  have hP : ∀ b ∈ B, Kind (P' b) := fun b hb => by rw [hA b hb]; exact hk b hb
  have hH : ∀ b ∈ B, H' b = H1 b := fun b hb => by
    rcases hk b hb with ⟨xs, z⟩ | ⟨C, dx, fs, z⟩
    · rcases e3.und b _ ((hA b hb).trans z) with q | ⟨_, _, q, _⟩ | ⟨_, _, q, _⟩
      · rw [q, z]
      · cases q
      · cases q
    · rcases e3.und b _ ((hA b hb).trans z) with q | ⟨_, _, q, _⟩ | ⟨_, _, q, _⟩
      · rw [q, z]
      · cases q
      · cases q
  refine ⟨hP, ⟨fun b o h => ?_, fun b o h => ?_, fun b o h hn _ => ?_, fun b o w h => e3.lck _ _ _ (e.lck _ _ _ h), fun b o h => ?_⟩⟩
  · have h1 := e.same _ _ h
    rw [less_out]
    · exact e3.same _ _ (s2 _ _ h1)
    · intro hb
      rw [off b hb] at h1; cases h1
  · obtain ⟨hb, h⟩ := less_some h
    rcases e3.und b o h with z | z | ⟨q, ps, z1, z2, z3, z4⟩
    · exact .inl z
    · exact .inr (.inl z)
    · refine .inr (.inr ⟨q, ps, z1, z2, z3, fun pos cv hc => ?_⟩)
      obtain ⟨c, c1, c2⟩ := z4 pos cv hc
      exact ⟨c, c1, less_not hP c2 (fun _ z => by cases z) (fun _ _ _ z => by cases z)⟩
  · have h1 := e.keep b o h hn (by simp)
    by_cases hb : b ∈ B
    · rw [hH b hb]; exact h1
    · refine e3.keep b o h1 ?_ (by simp)
      rw [give_out hb]
      cases q : P1 b with
      | none => rfl
      | some w =>
        rcases e.new b w q with z | z | z
        · rw [hn] at z; cases z
        · rw [h] at z; cases z
        · simp at z
  · obtain ⟨hb, h⟩ := less_some h
    rcases e3.new b o h with z | z | z
    · rw [give_out hb] at z; exact e.new b o z
    · exact .inr (.inl (e.free u z))
    · simp at z
end
/-- a call of a def, what it is given only lent -/
def sCallL (n : Nat) (φ : List D → FR) (S : Env → Res (List D)) : Env → Res D := fun ρ => (S ρ).bind fun ds => if ds.length = n ∧ ownOkL ds = true then (match φ (frzL ds) with
  | .ok d _ => if noFrz d = true then .ok d else .bad
  | .exc x _ => .exc x
  | .bad => .bad) else .bad
theorem spL_of {G : Gd} {φ : List D → FR} {n : Nat} {P H P1 H1 : Hp} {vs : List V} {ds : List D} {B : List Addr} {Q : VK} {E : XK} {W : WX} {σ : Sl} (u : Under P H) (mk : Marks G P) (e : Ext P H P1 H1 []) (r : RelL G P1 H1 vs ds B) (off : ∀ b ∈ B, P1 b = none) (ok : ownOkL ds = true) (hn : vs.length = n)
    (h : match φ (frzL ds) with
      | .ok d _ => noFrz d = true ∧ Post G P H Q d
      | .exc x _ => PostX G P H W σ x
      | .bad => False) (hE : ∀ cls d H', W cls d σ H' → E cls d H') : spF G n [] φ vs H1 Q E := by
  have sm : Same P1 (give P1 H1 B) := give_same off
  have hk := r.kind ok
  refine ⟨hn, give P1 H1 B, frzL ds, [], give_und e.und off, (mk.mono e.same).mono sm, r.frz sm fun b hb => give_in hb, List.nodup_nil, fun b hb => by simp at hb, ?_⟩
  cases hφ : φ (frzL ds) with
  | bad => rw [hφ] at h; exact h.elim
  | ok d os =>
    rw [hφ] at h
    intro v P' H' B' C e3 rv rc nd fr
    obtain ⟨hP, e4⟩ := lend_ext u e off hk e3
    refine h.2 v _ H' B' e4 (rv.less hP h.1) ⟨(List.nodup_append.mp nd).1, fun b hb => ?_⟩
    obtain ⟨q1, q2⟩ := fr b (List.mem_append_left _ hb)
    refine ⟨?_, ?_⟩
    · rcases q2 with z | z
      · exact e.free u z
      · simp at z
    · by_cases hb : b ∈ B
      · exact less_in hb
      · rw [less_out hb]; exact q1
  | exc x os =>
    rw [hφ] at h
    intro cls dx P' H' C e3 xr rc nd fr
    obtain ⟨hP, e4⟩ := lend_ext u e off hk e3
    exact hE _ _ _ (h cls dx _ H' e4 (xr.less hP))
section
variable {X : Cx} {W : WX} {k : Nat} {f : Addr} {fd : FuncData} {ps : List Str} {sp : Sp} {x : Str} {p pos : Pos} {e : Expr} {es : List Expr}
/-- f(e, ..), what is given only lent -/
theorem e_callL {φ : List D → FR} {S : Env → Res (List D)} (F : FnG X.prog X.w X.K X.mg X.base k f fd ps (spF (gd X) ps.length [] φ)) (hr : GRoom k X.A) (hm : X.mg x = some (.ref f)) (hk : PySem.W.keepIn X.K (.ref f) = true) (hb : Binds X.K fd ps []) (tk : Takes X W)
    (ha : ABOk X W (e :: es) S) (hg : Gl X x := by rfl) (hdb : (x == ("__debug__" : Str)) = false := by decide) (he : starEach (e :: es) X.env = (false, eval e X.env) :: starEach es X.env := by rfl) (hpl : (backTo pos (starEach es X.env)).any (·.1) = false := by rfl) :
    EOk X W (.Call (.Name x p) (e :: es) [] pos) (sCallL ps.length φ S) := ⟨⟨fun pins s σ H Q I ⟨P, ρ, A, st, h⟩ => by
  have ht : tLB (gd X) W S σ H fun vs H1 => spF (gd X) ps.length [] φ vs H1 Q fun cls d H' => W cls d σ H' := by
    refine ⟨P, ρ, A, st, ?_⟩
    cases hs : S ρ with
    | bad => simp only [sCallL, hs, Res.bind] at h
    | exc z => simp only [sCallL, hs, Res.bind] at h; exact h
    | ok ds =>
      simp only [sCallL, hs, Res.bind] at h
      by_cases hc : ds.length = ps.length ∧ ownOkL ds = true
      · rw [if_pos hc] at h
        intro vs P1 H1 B e1 r off
        refine spL_of st.und st.mks e1 r off hc.2 (r.length.trans hc.1) ?_ fun _ _ _ z => z
        cases hφ : φ (frzL ds) with
        | bad => simp only [hφ] at h
        | exc z os => simp only [hφ] at h; exact h
        | ok d os =>
          simp only [hφ] at h
          by_cases hd : noFrz d = true
          · rw [if_pos hd] at h; exact ⟨hd, h⟩
          · rw [if_neg hd] at h; exact h.elim
      · rw [if_neg hc] at h; exact h.elim
  apply wpAny_Call_Name_kw
  refine ld_glob I hg hm ?_ hdb
  refine PySem.W.callWith_K (h₀ := X.base) I.ok.mod.kin hk ?_ he hpl
  apply thn (ha.pa.run pos pins s σ H _ I ht)
  intro us s1 ⟨vs, H1, I1, r, q⟩
  exact ⟨I1.kIn, run_fnG F hr hb tk I1 r q⟩⟩⟩
theorem e_fnL {j : Nat} {φ : List D → FR} {S : Env → Res (List D)} (F : DefOk X.prog X.w X.K X.mg X.base x j ps φ) (hr : GRoom k X.A) (tk : Takes X W) (ha : ABOk X W (e :: es) S) (hj : j ≤ k := by decide) (hg : Gl X x := by rfl) (hdb : (x == ("__debug__" : Str)) = false := by decide)
    (he : starEach (e :: es) X.env = (false, eval e X.env) :: starEach es X.env := by rfl) (hpl : (backTo pos (starEach es X.env)).any (·.1) = false := by rfl) : EOk X W (.Call (.Name x p) (e :: es) [] pos) (sCallL ps.length φ S) := by
  obtain ⟨f, fd, h, g, kp, b⟩ := F.ex
  exact e_callL h (hr.mono hj) g kp b tk ha hg hdb he hpl
theorem sCallL_ap {n : Nat} {φ : List D → FR} {S : Env → Res (List D)} {ρ : Env} {ds : List D} {d : D} {os : List D} (h : S ρ = .ok ds) (hn : ds.length = n) (ok : ownOkL ds = true) (hφ : φ (frzL ds) = .ok d os) (hd : noFrz d = true) : sCallL n φ S ρ = .ok d := by
  simp [sCallL, h, Res.bind, hn, ok, hφ, hd]
end
end RL

/-! RL, more rules to compute meanings with: places, objects, texts, loops. -/
namespace RL
open PySem PySem.Spec PyProof.Rows L2
section
variable {ρ : Env}
@[simp] theorem sIter_ap {S : Env → Res D} : sIter S ρ = (S ρ).bind fun d => opt (iterD d) := rfl
@[simp] theorem sVals_ap {S : Env → Res D} : sVals S ρ = (S ρ).bind fun d => opt (valsD d) := rfl
@[simp] theorem sItems_ap {S : Env → Res D} : sItems S ρ = (S ρ).bind fun d => opt (itemsD d) := rfl
@[simp] theorem iterD_l {o : Bool} {ds : List D} (h : cleanL ds = true) : iterD (.lst o ds) = some ds := by simp [iterD, h]
@[simp] theorem iterD_t {ds : List D} (h : cleanL ds = true) : iterD (.tup ds) = some ds := by simp [iterD, h]
@[simp] theorem iterD_scr {ns : List Int} : iterD (.scr ns) = some (ns.map .int) := rfl
@[simp] theorem iterD_s {x : Str} : iterD (.str x) = some (x.cps.toList.map fun c => .str ⟨#[c]⟩) := rfl
@[simp] theorem sM1_ap {f : Str → D → Option D} {So Sa : Env → Res D} : sM1 f So Sa ρ = (So ρ).bind fun x => match x with
  | .str a => (Sa ρ).bind fun y => opt (f a y)
  | _ => .bad := rfl
@[simp] theorem sFld_ap {cs : List Str} {f : Str} {S : Env → Res D} : sFld cs f S ρ = (S ρ).bind fun d => opt (getF cs f d) := rfl
@[simp] theorem plVar_ap {i : Nat} {d : D} (h : ρ[i]? = some (some d)) : plVar i ρ = .ok ⟨d, fun d' => ρ.set i (some d')⟩ := by simp [plVar, h]
@[simp] theorem plIx_ap {Pa : Env → Res Plc} {Sb : Env → Res D} : plIx Pa Sb ρ = (Pa ρ).bind fun p => (Sb ρ).bind fun y => opt ((chIx p.at_ y).map p.sub) := rfl
@[simp] theorem plFld_ap {cs : List Str} {f : Str} {Pa : Env → Res Plc} : plFld cs f Pa ρ = (Pa ρ).bind fun p => opt ((chFld cs f p.at_).map p.sub) := rfl
@[simp] theorem sMut_ap {f : D → List D → Option D} {Pl : Env → Res Plc} {Sa : Env → Res (List D)} : sMut f Pl Sa ρ = (Pl ρ).stm ρ fun p => if isLstO p.at_ = true then (Sa ρ).stm ρ fun ds => put ((f p.at_ ds).map p.set) else .bad := by
  unfold sMut Res.stm put
  cases Pl ρ with
  | ok p =>
    simp only
    split
    · cases Sa ρ with
      | ok ds => simp only; cases f p.at_ ds <;> rfl
      | _ => rfl
    · rfl
  | _ => rfl
@[simp] theorem sPutD_ap {fz : Bool} {Pl : Env → Res Plc} {Sk Se : Env → Res D} : sPutD fz Pl Sk Se ρ = (Se ρ).stm ρ fun d => (Pl ρ).stm ρ fun p => (Sk ρ).stm ρ fun k => put ((putD k (if fz then d.frz else d) p.at_).map p.set) := by
  unfold sPutD Res.stm put
  cases Se ρ with
  | ok d =>
    simp only
    cases Pl ρ with
    | ok p =>
      simp only
      cases Sk ρ with
      | ok k => simp only; cases putD k (if fz = true then d.frz else d) p.at_ <;> rfl
      | _ => rfl
    | _ => rfl
  | _ => rfl
@[simp] theorem sSetF_ap {cs : List Str} {f : Str} {fz : Bool} {Pl : Env → Res Plc} {S : Env → Res D} : sSetF cs f fz Pl S ρ = (S ρ).stm ρ fun d => (Pl ρ).stm ρ fun p => put ((setF cs f (if fz then d.frz else d) p.at_).map p.set) := by
  unfold sSetF Res.stm put
  cases S ρ with
  | ok d =>
    simp only
    cases Pl ρ with
    | ok p => simp only; cases setF cs f (if fz = true then d.frz else d) p.at_ <;> rfl
    | _ => rfl
  | _ => rfl
@[simp] theorem put_none : put none = .bad := rfl
@[simp] theorem isLstO_t {ds : List D} : isLstO (.lst true ds) = true := rfl
@[simp] theorem sRaise_ap {c : Str} : sRaise c ρ = .exc (.exn c [] []) ρ := rfl
@[simp] theorem sMeth_ap {m : Str} {tab : List (Str × (List D → FR))} {n : Nat} {So : Env → Res D} {Ss : Env → Res (List D)} : sMeth m tab n So Ss ρ = (So ρ).bind fun o => match o with
  | .obj _ c ns _ => if m ∉ ns then (match tabGo tab c with
    | some φ => (Ss ρ).bind fun ds => if ds.length + 1 = n then (φ (frzL (o :: ds))).res else .bad
    | none => .bad) else .bad
  | _ => .bad := by
  unfold sMeth
  cases So ρ with
  | ok o =>
    simp only [bind_ok]
    cases o <;> rfl
  | _ => rfl
@[simp] theorem sMake_ap {c : Str} {n : Nat} {φ : List D → FR} {S : Env → Res (List D)} : sMake c n φ S ρ = (S ρ).bind fun ds => mkRes c n φ ds := rfl
@[simp] theorem endF_nx1 {d : D} {ρ : Env} (h : ρ[0]? = some (some d)) : endF [0] (.nx ρ) = .ok .non [d] := by simp [endF, outsOf, h]
@[simp] theorem mAppend_l {ds : List D} {d : D} : mAppend (.lst true ds) [d] = if ds.length < sizeLine then some (.lst true (ds ++ [d])) else none := by
  simp [mAppend]
theorem sLc_ok {Si : Env → Res (List D)} {t : Tg} {vs : List Nat} {T : Env → Res Bool} {E : Env → Res D} {ds es : List D} (h : Si ρ = .ok ds) (hl : ds.length ≤ sizeLine) (hr : lcRun (lcOne t vs T E ρ) ds = some es) : sLc Si t vs T E ρ = .ok (.lst true es) := by
  simp [sLc, h, hl, hr]
end
theorem lcRun_map {f : D → Res (Option D)} {g : D → D} : ∀ {ds : List D}, (∀ d ∈ ds, f d = .ok (some (g d))) → lcRun f ds = some (ds.map g)
  | [], _ => rfl
  | d :: ds, h => by
    rw [lcRun, h d List.mem_cons_self]
    simp only
    rw [lcRun_map fun e he => h e (List.mem_cons_of_mem _ he)]
    rfl
theorem lcRun_of {α : Type} {e : α → D} {g : α → D} {f : D → Res (Option D)} : ∀ {xs : List α}, (∀ x ∈ xs, f (e x) = .ok (some (g x))) → lcRun f (xs.map e) = some (xs.map g)
  | [], _ => rfl
  | x :: xs, h => by
    rw [List.map_cons, lcRun, h x List.mem_cons_self]
    simp only
    rw [lcRun_of fun e he => h e (List.mem_cons_of_mem _ he)]
    rfl
theorem lcRun_fm {α : Type} {e : α → D} {g : α → Option D} {f : D → Res (Option D)} : ∀ {xs : List α}, (∀ x ∈ xs, f (e x) = .ok (g x)) → lcRun f (xs.map e) = some (xs.filterMap g)
  | [], _ => rfl
  | x :: xs, h => by
    rw [List.map_cons, lcRun, h x List.mem_cons_self, List.filterMap_cons]
    have ih := lcRun_fm (e := e) (g := g) (f := f) fun e he => h e (List.mem_cons_of_mem _ he)
    cases g x with
    | none => exact ih
    | some y => simp only; rw [ih]; rfl
theorem lcRun_fl {α : Type} {e g : α → D} {p : α → Bool} {f : D → Res (Option D)} {xs : List α} (h : ∀ x ∈ xs, f (e x) = .ok (if p x = true then some (g x) else none)) : lcRun f (xs.map e) = some ((xs.filter p).map g) := by
  rw [lcRun_fm h]
  congr 1
  induction xs with
  | nil => rfl
  | cons x xs ih =>
    have ih := ih fun y hy => h y (List.mem_cons_of_mem _ hy)
    rw [List.filterMap_cons, List.filter_cons]
    cases p x with
    | true => simp [ih]
    | false => simp [ih]
/-- a loop by what stays true -/
theorem for_inv {t : Tg} {S : Env → SRes} (I : Nat → Env → Prop) : ∀ {ds : List D} {k : Nat} {ρ : Env}, I k ρ → (∀ i d ρ, ds[i]? = some d → I (k + i) ρ → ∃ ρ1 ρ2, t.set d ρ = some ρ1 ∧ S ρ1 = .nx ρ2 ∧ I (k + i + 1) ρ2) → ∃ ρ', forRun t S ds ρ = .nx ρ' ∧ I (k + ds.length) ρ'
  | [], k, ρ, h, _ => ⟨ρ, rfl, h⟩
  | d :: ds, k, ρ, h, st => by
    obtain ⟨ρ1, ρ2, h1, h2, h3⟩ := st 0 d ρ rfl h
    obtain ⟨ρ', q1, q2⟩ := for_inv I (ds := ds) (k := k + 1) h3 fun i d ρ hd hi => by
      have := st (i + 1) d ρ (by simpa using hd) (by rw [show k + (i + 1) = k + 1 + i by omega]; exact hi)
      rw [show k + (i + 1) + 1 = k + 1 + i + 1 by omega] at this
      exact this
    refine ⟨ρ', ?_, by rw [List.length_cons, show k + (ds.length + 1) = k + 1 + ds.length by omega]; exact q2⟩
    rw [forRun_cons, h1, put_some, andThen_nx, h2, loopK_nx, q1]
/-! slices -/
theorem cut_nn {α : Type} (xs : List α) (i j : Nat) : cutL xs (some (i : Int)) (some (j : Int)) = (xs.drop i).take (j - i) := by
  unfold cutL
  rw [HT.sIx_nat, HT.sIx_nat]
  by_cases h : i ≤ xs.length
  · rw [Nat.min_eq_left h]
    by_cases h2 : j ≤ xs.length
    · rw [Nat.min_eq_left h2]
    · rw [Nat.min_eq_right (by omega), List.take_of_length_le (by rw [List.length_drop]; omega), List.take_of_length_le (by rw [List.length_drop]; omega)]
  · rw [Nat.min_eq_right (a := i) (by omega), List.drop_of_length_le (Nat.le_refl _), List.drop_of_length_le (by omega)]
    simp
theorem cut_0n {α : Type} (xs : List α) (j : Nat) : cutL xs none (some (j : Int)) = xs.take j := by
  unfold cutL
  rw [HT.sIx_nat, HT.sIx_none]
  by_cases h2 : j ≤ xs.length
  · rw [Nat.min_eq_left h2]; rfl
  · rw [Nat.min_eq_right (by omega), Nat.sub_zero, List.drop_zero, List.take_of_length_le (Nat.le_refl _), List.take_of_length_le (by omega)]
theorem cut_n0 {α : Type} (xs : List α) (i : Nat) : cutL xs (some (i : Int)) none = xs.drop i := by
  unfold cutL
  rw [HT.sIx_nat, HT.sIx_none]
  by_cases h2 : i ≤ xs.length
  · rw [Nat.min_eq_left h2, List.take_of_length_le (by rw [List.length_drop]; omega)]
  · rw [Nat.min_eq_right (by omega), List.drop_of_length_le (Nat.le_refl _), List.drop_of_length_le (by omega)]; simp
theorem cut_1 {α : Type} (xs : List α) (i : Nat) : cutL xs (some (i : Int)) (some ((i : Int) + 1)) = xs[i]?.toList := by
  have := cut_nn xs i (i + 1)
  rw [show ((i + 1 : Nat) : Int) = (i : Int) + 1 by omega] at this
  rw [this, Nat.add_sub_cancel_left]
  by_cases h : i < xs.length
  · rw [List.drop_eq_getElem_cons h, List.getElem?_eq_getElem h]; rfl
  · rw [List.drop_of_length_le (by omega), List.getElem?_eq_none (by omega)]; rfl
theorem opSl_l {o : Bool} {ds : List D} {lo hi : Option Int} (h : cleanL ds = true) : opSl (.lst o ds) lo hi = some (.lst true (cutL ds lo hi)) := by simp [opSl, h]
@[simp] theorem opAdd_s {x y : Str} (h : x.length + y.length ≤ sizeLine) : opAdd (.str x) (.str y) = some (.str (x ++ y)) := by simp [opAdd, h]
theorem opAdd_l {o o' : Bool} {xs ys : List D} (h : cleanL xs = true) (h' : cleanL ys = true) (hl : xs.length + ys.length ≤ sizeLine) : opAdd (.lst o xs) (.lst o' ys) = some (.lst true (xs ++ ys)) := by simp [opAdd, h, h', hl]
@[simp] theorem cleanL_strs {ns : List Str} : cleanL (ns.map .str) = true := cleanL_all.mpr fun d hd => by
  obtain ⟨i, _, rfl⟩ := List.mem_map.mp hd
  rfl
@[simp] theorem frzL_strs : ∀ {ns : List Str}, frzL (ns.map .str) = ns.map .str
  | [] => by simp [frzL]
  | n :: ns => by simp [frzL, D.frz, frzL_strs (ns := ns)]
theorem frz_clean : ∀ d : D, d.frz.clean = true := by
  intro d
  cases d with
  | tup ds => simp [D.frz, D.clean]; exact go ds
  | tux ds => simp [D.frz, D.clean]; exact go ds
  | lst o ds => simp [D.frz, D.clean]; exact go ds
  | dct o ks ds => simp [D.frz, D.clean]; exact go ds
  | obj o c ns ds => simp [D.frz, D.clean]; exact go ds
  | _ => rfl
where go : ∀ ds : List D, cleanL (frzL ds) = true
  | [] => by simp [frzL]
  | d :: ds => by simp [frzL, cleanL, frz_clean d, go ds]
theorem frzL_clean (ds : List D) : cleanL (frzL ds) = true := frz_clean.go ds
theorem strsD_map : ∀ ys : List Str, strsD (ys.map .str) = some ys
  | [] => rfl
  | y :: ys => by simp [strsD, strsD_map ys]
theorem intsD_map : ∀ ys : List Int, intsD (ys.map .int) = some ys
  | [] => rfl
  | y :: ys => by simp [intsD, intsD_map ys]
@[simp] theorem fLenX_l {o : Bool} {ds : List D} : fLenX (.lst o ds) = some (.int ds.length) := rfl
@[simp] theorem fLenX_t {ds : List D} : fLenX (.tup ds) = some (.int ds.length) := rfl
@[simp] theorem fLenX_scr {ns : List Int} : fLenX (.scr ns) = some (.int ns.length) := rfl
theorem mod_pos' {i j : Int} (h : 0 < j) : opMod (.int i) (.int j) = some (.int (i % j)) := by rw [opMod_i (by omega), Int.fmod_eq_emod_of_nonneg _ (by omega)]
theorem fdiv_pos' {i j : Int} (h : 0 < j) (q : sml j = true) : opFdiv (.int i) (.int j) = some (.int (i / j)) := by rw [opFdiv_i (by omega) q, Int.fdiv_eq_ediv_of_nonneg _ (by omega)]
/-- what stands at a place of a written list -/
theorem ix_mem {α : Type} {xs : List α} {r : Int} (h0 : 0 ≤ r) (h : r < xs.length) : ∃ v, atI xs r = some v ∧ v ∈ xs := by
  obtain ⟨n, rfl⟩ := Int.eq_ofNat_of_zero_le h0
  rw [atI_nat]
  have : n < xs.length := by omega
  exact ⟨xs[n], List.getElem?_eq_getElem this, List.getElem_mem this⟩
/-! dicts -/
theorem putKs_new {ks : List Key} {k : Key} (h : k ∉ ks) : ixOf ks k = none := by
  induction ks with
  | nil => rfl
  | cons a ks ih =>
    simp only [List.mem_cons, not_or] at h
    simp only [ixOf]
    rw [if_neg fun z => h.1 z.symm, ih h.2]
    rfl
theorem ixOf_at : ∀ {ks : List Key} {i : Nat} {k : Key}, ks.Nodup → ks[i]? = some k → ixOf ks k = some i
  | [], _, _, _, h => by simp at h
  | a :: ks, 0, k, nd, h => by
    simp at h
    simp [ixOf, h]
  | a :: ks, i + 1, k, nd, h => by
    obtain ⟨n1, n2⟩ := List.nodup_cons.mp nd
    have h' : ks[i]? = some k := by simpa using h
    have ne : a ≠ k := fun e => n1 (e ▸ List.mem_of_getElem? h')
    simp [ixOf, ne, ixOf_at n2 h']
abbrev sk (x : Str) : Key := .inr x
theorem mkD_new {v : Str → D} : ∀ {xs : List Str} {ks : List Key} {ds : List D}, (∀ x ∈ xs, sk x ∉ ks) → xs.Nodup → mkD (xs.map fun x => .tup [.str x, v x]) ks ds = some (.dct true (ks ++ xs.map sk) (ds ++ xs.map v))
  | [], ks, ds, _, _ => by simp [mkD]
  | x :: xs, ks, ds, h, nd => by
    obtain ⟨n1, n2⟩ := List.nodup_cons.mp nd
    have e := putKs_new (h x List.mem_cons_self)
    simp only [List.map_cons, mkD, RL.keyOf, Option.bind_some, putKs, putVs, e]
    rw [mkD_new (fun y hy z => ?_) n2]
    · simp
    · rcases List.mem_append.mp z with z | z
      · exact h y (List.mem_cons_of_mem _ hy) z
      · have : y = x := by simpa using z
        exact n1 (this ▸ hy)
theorem fits_long {a : Int} (h : -(10 ^ 12) ≤ a) (h2 : a ≤ 10 ^ 12) : Builtin.Range.rangeFitsLong a = true := by
  unfold Builtin.Range.rangeFitsLong
  simp
  omega
/-- a range by whole steps -/
theorem rng3_nat {lo n c : Nat} (hc : 0 < c) (h1 : lo ≤ 1000000) (h2 : n ≤ 1000000) (h3 : c ≤ 1000000) : ∃ J : Nat, rng3 [.int lo, .int n, .int c] = some ((List.range J).map fun j : Nat => .int ((lo + j * c : Nat) : Int)) ∧ n ≤ lo + J * c ∧ (∀ j, j < J → lo + j * c < n) ∧ J ≤ n := by
  have main : ∃ J : Nat, Builtin.Range.rangeSize lo n c = (J : Int) ∧ n ≤ lo + J * c ∧ (∀ j, j < J → lo + j * c < n) ∧ J ≤ n := by
    unfold Builtin.Range.rangeSize
    rw [if_pos (show (c : Int) > 0 by omega)]
    by_cases h : (lo : Int) < n
    · rw [if_pos h]
      refine ⟨(n - lo - 1) / c + 1, ?_, ?_, fun j hj => ?_, ?_⟩
      · rw [show ((n : Int) - lo - 1) = ((n - lo - 1 : Nat) : Int) by omega]
        simp
      · have := Nat.div_add_mod (n - lo - 1) c
        have := Nat.mod_lt (n - lo - 1) hc
        rw [Nat.add_mul, Nat.mul_comm ((n - lo - 1) / c)]
        omega
      · have : j * c ≤ (n - lo - 1) / c * c := Nat.mul_le_mul_right c (by omega)
        have := Nat.div_mul_le_self (n - lo - 1) c
        omega
      · have := Nat.div_le_self (n - lo - 1) c
        omega
    · rw [if_neg h]
      exact ⟨0, rfl, by omega, fun j hj => by omega, by omega⟩
  obtain ⟨J, e, p1, p2, p3⟩ := main
  refine ⟨J, ?_, p1, p2, p3⟩
  have sm : Builtin.Range.small lo n c = true := by
    unfold Builtin.Range.small
    rw [e, fits_long (a := lo) (by omega) (by omega), fits_long (a := n) (by omega) (by omega), fits_long (a := c) (by omega) (by omega), fits_long (a := (J : Int)) (by omega) (by omega), if_pos (show (c : Int) > 0 by omega), fits_long (by omega) (by omega)]
    simp
  unfold rng3
  simp only [sm, e, Int.toNat_natCast]
  rw [if_pos ⟨by omega, by omega, trivial⟩]
  congr 1
end RL

/-! RL, loops by what is true of what was gone through. -/
namespace RL
open PySem PySem.Spec PyProof.Rows L2
theorem ups0 (n : Nat) : ups 0 n = (List.range n).map fun (k : Nat) => D.int (k : Int) := by simp [ups]
theorem nm_set {t : Nat} {d : D} {ρ : Env} (h : t < ρ.length) : (Tg.nm t).set d ρ = some (ρ.set t (some d)) := by simp [Tg.set, h]
/-- a loop over a list -/
theorem for_of {α : Type} {e : α → D} {t : Tg} {S : Env → SRes} (I : List α → Env → Prop) {xs : List α} {ρ : Env} (h0 : I [] ρ) (step : ∀ p x q ρ, xs = p ++ x :: q → I p ρ → ∃ ρ1 ρ2, t.set (e x) ρ = some ρ1 ∧ S ρ1 = .nx ρ2 ∧ I (p ++ [x]) ρ2) :
    ∃ ρ', forRun t S (xs.map e) ρ = .nx ρ' ∧ I xs ρ' := by
  have main : ∀ (q p : List α) (ρ : Env), xs = p ++ q → I p ρ → ∃ ρ', forRun t S (q.map e) ρ = .nx ρ' ∧ I xs ρ' := by
    intro q
    induction q with
    | nil => intro p ρ h hI; rw [List.append_nil] at h; subst h; exact ⟨ρ, rfl, hI⟩
    | cons x q ih =>
      intro p ρ h hI
      obtain ⟨ρ1, ρ2, h1, h2, h3⟩ := step p x q ρ h hI
      obtain ⟨ρ', q1, q2⟩ := ih (p ++ [x]) ρ2 (by rw [h]; simp) h3
      exact ⟨ρ', by rw [List.map_cons, forRun_cons, h1, put_some, andThen_nx, h2, loopK_nx, q1], q2⟩
  exact main xs [] ρ rfl h0
/-- a loop over a list by its items alone -/
theorem for_nm {α : Type} {e : α → D} {t : Nat} {S : Env → SRes} (I : List α → Env → Prop) {xs : List α} {ρ : Env} (h0 : I [] ρ) (hl : ∀ p ρ, I p ρ → t < ρ.length) (step : ∀ p x q ρ, xs = p ++ x :: q → I p ρ → ∃ ρ2, S (ρ.set t (some (e x))) = .nx ρ2 ∧ I (p ++ [x]) ρ2) :
    ∃ ρ', forRun (.nm t) S (xs.map e) ρ = .nx ρ' ∧ I xs ρ' :=
  for_of I h0 fun p x q ρ h hI => let ⟨ρ2, h2, h3⟩ := step p x q ρ h hI; ⟨_, ρ2, nm_set (hl p ρ hI), h2, h3⟩
/-- a loop over a range -/
theorem for_up {t : Nat} {S : Env → SRes} (I : Nat → Env → Prop) {n : Nat} {ρ : Env} (h0 : I 0 ρ) (hl : ∀ p ρ, I p ρ → t < ρ.length) (step : ∀ i ρ, i < n → I i ρ → ∃ ρ2, S (ρ.set t (some (.int (i : Int)))) = .nx ρ2 ∧ I (i + 1) ρ2) :
    ∃ ρ', forRun (.nm t) S (ups 0 n) ρ = .nx ρ' ∧ I n ρ' := by
  rw [ups0]
  obtain ⟨ρ', h1, h2⟩ := for_nm (e := fun k : Nat => D.int (k : Int)) (t := t) (S := S) (fun p ρ => I p.length ρ) (xs := List.range n) h0 (fun p ρ h => hl _ ρ h) (by
    intro p x q ρ h hI
    have hx : x = p.length := by
      have h1 : (List.range n)[p.length]? = some x := by rw [h]; simp
      rw [List.getElem?_range (by
        have := congrArg List.length h
        simp at this
        omega)] at h1
      exact (Option.some.inj h1).symm
    have hn : p.length < n := by
      have := congrArg List.length h
      simp at this
      omega
    subst hx
    obtain ⟨ρ2, h2, h3⟩ := step p.length ρ hn hI
    exact ⟨ρ2, h2, by rw [List.length_append]; exact h3⟩)
  rw [List.length_range] at h2
  exact ⟨ρ', h1, h2⟩
/-- a loop that asks each and answers at the first that is not so -/
theorem for_all {α : Type} {e : α → D} {t : Tg} {S : Env → SRes} (I : List α → Env → Prop) {xs : List α} {ρ : Env} (h0 : I [] ρ) (step : ∀ p x q ρ, xs = p ++ x :: q → I p ρ → ∃ ρ1 ρ2, t.set (e x) ρ = some ρ1 ∧ S ρ1 = .nx ρ2 ∧ I (p ++ [x]) ρ2) : ∃ ρ', forRun t S (xs.map e) ρ = .nx ρ' ∧ I xs ρ' := for_of I h0 step
/-- a list made by a comprehension, of typed items -/
theorem lc_map {α : Type} {e g : α → D} {Si : Env → Res (List D)} {t : Tg} {vs : List Nat} {T : Env → Res Bool} {E : Env → Res D} {ρ : Env} {xs : List α} (hl : xs.length ≤ 10000) (h : Si ρ = .ok (xs.map e)) (hr : ∀ x ∈ xs, lcOne t vs T E ρ (e x) = .ok (some (g x))) :
    sLc Si t vs T E ρ = .ok (.lst true (xs.map g)) := sLc_ok h (by rw [List.length_map]; unfold sizeLine; omega) (lcRun_of hr)
theorem lc_fl {α : Type} {e g : α → D} {p : α → Bool} {Si : Env → Res (List D)} {t : Tg} {vs : List Nat} {T : Env → Res Bool} {E : Env → Res D} {ρ : Env} {xs : List α} (hl : xs.length ≤ 10000) (h : Si ρ = .ok (xs.map e)) (hr : ∀ x ∈ xs, lcOne t vs T E ρ (e x) = .ok (if p x = true then some (g x) else none)) :
    sLc Si t vs T E ρ = .ok (.lst true ((xs.filter p).map g)) := sLc_ok h (by rw [List.length_map]; unfold sizeLine; omega) (lcRun_fl hr)
theorem lc_up {g : Nat → D} {Si : Env → Res (List D)} {t : Tg} {vs : List Nat} {T : Env → Res Bool} {E : Env → Res D} {ρ : Env} {n : Nat} (hl : n ≤ 10000) (h : Si ρ = .ok (ups 0 n)) (hr : ∀ k, k < n → lcOne t vs T E ρ (.int (k : Int)) = .ok (some (g k))) :
    sLc Si t vs T E ρ = .ok (.lst true ((List.range n).map g)) := lc_map (e := fun k : Nat => D.int (k : Int)) (by rw [List.length_range]; exact hl) (by rw [h, ups0]) fun k hk => hr k (List.mem_range.mp hk)
theorem rng1_nat {n : Nat} (h : n ≤ 1000000) : rng1 [.int (n : Int)] = some (ups 0 n) := by
  have : inR (n : Int) = true := by simp [inR]; omega
  simp [rng1, this]
end RL

/-! RL, typed data: dicts with texts as keys, lists of texts, of whole numbers. -/
namespace RL
open PySem PySem.Spec PyProof.Rows L2
section
variable {α : Type} {k : α → Str} {v : α → D} {xs : List α} {o : Bool} {s : Str}
/-- a dict by its keys' texts and its values -/
def dT (o : Bool) (k : α → Str) (v : α → D) (xs : List α) : D := .dct o (xs.map fun x => sk (k x)) (xs.map v)
theorem clean_of (h : ∀ x ∈ xs, (v x).clean = true) : cleanL (xs.map v) = true := cleanL_all.mpr fun d hd => by
  obtain ⟨i, hi, rfl⟩ := List.mem_map.mp hd
  exact h i hi
theorem frzL_map : ∀ xs : List α, frzL (xs.map v) = xs.map fun x => (v x).frz
  | [] => by simp [frzL]
  | x :: xs => by simp [frzL, frzL_map xs]
theorem frz_same (h : ∀ x ∈ xs, (v x).frz = v x) : frzL (xs.map v) = xs.map v := by
  rw [frzL_map]
  exact List.map_congr_left h
theorem dT_clean (h : ∀ x ∈ xs, (v x).clean = true) : (dT false k v xs).clean = true := by
  simp [dT, clean_of h]
theorem dT_frz : (dT o k v xs).frz = dT false k (fun x => (v x).frz) xs := by simp [dT, D.frz, frzL_map]
theorem dT_frz_same (h : ∀ x ∈ xs, (v x).frz = v x) : (dT o k v xs).frz = dT false k v xs := by simp [dT, D.frz, frz_same h]
theorem mkD_T : ∀ {xs : List α} {ks : List Key} {ds : List D}, (∀ x ∈ xs, sk (k x) ∉ ks) → (xs.map k).Nodup → mkD (xs.map fun x => .tup [.str (k x), v x]) ks ds = some (.dct true (ks ++ xs.map fun x => sk (k x)) (ds ++ xs.map v))
  | [], ks, ds, _, _ => by simp [mkD]
  | x :: xs, ks, ds, h, nd => by
    obtain ⟨n1, n2⟩ := List.nodup_cons.mp nd
    have e := putKs_new (h x List.mem_cons_self)
    simp only [List.map_cons, mkD, RL.keyOf, Option.bind_some, putKs, putVs, e]
    rw [mkD_T (fun y hy z => ?_) n2]
    · simp
    · rcases List.mem_append.mp z with z | z
      · exact h y (List.mem_cons_of_mem _ hy) z
      · have : k y = k x := by simpa using z
        exact n1 (this ▸ List.mem_map_of_mem hy)
theorem dict_T (nd : (xs.map k).Nodup) : fDict (.lst o (xs.map fun x => .tup [.str (k x), v x])) = some (dT true k v xs) := by
  have := mkD_T (v := v) (ks := []) (ds := []) (fun x _ => by simp) nd
  simpa [fDict, dT] using this
theorem lookD_T : ∀ {xs : List α} {x : α}, x ∈ xs → (xs.map k).Nodup → lookD (xs.map fun x => sk (k x)) (xs.map v) (sk (k x)) = some (v x)
  | [], _, h, _ => by simp at h
  | y :: ys, x, h, nd => by
    obtain ⟨n1, n2⟩ := List.nodup_cons.mp nd
    simp only [List.map_cons, lookD]
    rcases List.mem_cons.mp h with rfl | h
    · simp
    · have : k y ≠ k x := fun e => n1 (e ▸ List.mem_map_of_mem h)
      have : sk (k y) ≠ sk (k x) := fun e => this (Sum.inr.inj e)
      rw [if_neg this]
      exact lookD_T h n2
theorem lookD_N : ∀ {xs : List α}, s ∉ xs.map k → lookD (xs.map fun x => sk (k x)) (xs.map v) (sk s) = none
  | [], _ => rfl
  | y :: ys, h => by
    simp only [List.map_cons, List.mem_cons, not_or] at h
    simp only [List.map_cons, lookD]
    have : sk (k y) ≠ sk s := fun e => h.1 (Sum.inr.inj e).symm
    rw [if_neg this]
    exact lookD_N h.2
theorem ix_T {x : α} (h : x ∈ xs) (nd : (xs.map k).Nodup) : opIx (dT o k v xs) (.str (k x)) = some (v x) := lookD_T h nd
theorem ix_N (h : s ∉ xs.map k) : opIx (dT o k v xs) (.str s) = none := lookD_N h
theorem ixOf_T : ∀ {xs : List α}, (ixOf (xs.map fun x => sk (k x)) (sk s)).isSome = decide (s ∈ xs.map k)
  | [] => by simp [ixOf]
  | y :: ys => by
    simp only [List.map_cons, ixOf]
    by_cases h : k y = s
    · simp [h]
    · have h2 : sk (k y) ≠ sk s := fun e => h (Sum.inr.inj e)
      have h3 : ¬ s = k y := fun e => h e.symm
      rw [if_neg h2, Option.isSome_map, ixOf_T]
      simp [h3]
theorem in_T : oIn (.str s) (dT o k v xs) = some (.bl (decide (s ∈ xs.map k))) := by
  simp only [oIn, fIn, dT, RL.keyOf, Option.map_some, ixOf_T]
theorem notin_T : oNotIn (.str s) (dT o k v xs) = some (.bl (!decide (s ∈ xs.map k))) := by
  simp only [oNotIn, fIn, dT, RL.keyOf, Option.map_some, ixOf_T]
theorem vals_T (h : ∀ x ∈ xs, (v x).clean = true) : valsD (dT o k v xs) = some (xs.map v) := by simp [valsD, dT, clean_of h]
theorem tupV_T (h : ∀ x ∈ xs, (v x).clean = true) : fTupV (dT o k v xs) = some (.tup (xs.map v)) := by simp [fTupV, dT, clean_of h]
theorem itemsL_T : ∀ xs : List α, itemsL (xs.map fun x => sk (k x)) (xs.map v) = xs.map fun x => .tup [.str (k x), v x]
  | [] => rfl
  | x :: xs => by simp only [List.map_cons, itemsL, itemsL_T xs]; rfl
theorem items_T (h : ∀ x ∈ xs, (v x).clean = true) : itemsD (dT o k v xs) = some (xs.map fun x => .tup [.str (k x), v x]) := by simp [itemsD, dT, clean_of h, itemsL_T]
theorem keysL_T : (xs.map fun x => sk (k x)).map keyD = xs.map fun x => .str (k x) := by
  rw [List.map_map]; rfl
theorem list_T : fListX (dT o k v xs) = some (.lst true (xs.map fun x => .str (k x))) := by
  simp only [fListX, dT, List.length_map, if_true, keysL_T]
theorem get_T {x : α} (h : x ∈ xs) (nd : (xs.map k).Nodup) (hc : ∀ x ∈ xs, (v x).clean = true) : getD1 (dT o k v xs) (.str (k x)) = some (v x) := by
  simp [getD1, dT, RL.keyOf, lookD_T h nd, clean_of hc]
theorem get_N (h : s ∉ xs.map k) (hc : ∀ x ∈ xs, (v x).clean = true) : getD1 (dT o k v xs) (.str s) = some .non := by
  simp [getD1, dT, RL.keyOf, lookD_N h, clean_of hc]
end
/-! ### in, of lists -/
theorem flats_str : ∀ xs : List Str, (xs.map D.str).mapM D.flat? = some (xs.map V.str)
  | [] => rfl
  | x :: xs => by simp [List.mapM_cons, flats_str xs, D.flat?]
theorem flats_int : ∀ xs : List Int, (xs.map D.int).mapM D.flat? = some (xs.map V.int)
  | [] => rfl
  | x :: xs => by simp [List.mapM_cons, flats_int xs, D.flat?]
theorem inV_str {x : Str} {xs : List Str} : inV (.str x) (xs.map V.str) = decide (x ∈ xs) := by
  induction xs with
  | nil => rfl
  | cons y ys ih =>
    have e0 : eqV (.str y) (.str x) = decide (y = x) := by
      show (y == x) = _
      by_cases h : y = x
      · simp [h]
      · simp [h]
    have e : inV (.str x) ((y :: ys).map V.str) = (decide (y = x) || inV (.str x) (ys.map V.str)) := by
      show (eqV (.str y) (.str x) || _) = _
      rw [e0]; rfl
    rw [e, ih]
    by_cases h : y = x
    · simp [h]
    · have : ¬ x = y := fun e => h e.symm
      simp [h, this]
theorem in_strs {o : Bool} {x : Str} {xs : List Str} : oIn (.str x) (.lst o (xs.map .str)) = some (.bl (decide (x ∈ xs))) := by
  simp only [oIn, fIn, D.flat?, flats_str, inV_str, Option.map_some]
theorem notin_strs {o : Bool} {x : Str} {xs : List Str} : oNotIn (.str x) (.lst o (xs.map .str)) = some (.bl (!decide (x ∈ xs))) := by
  simp only [oNotIn, fIn, D.flat?, flats_str, inV_str, Option.map_some]
theorem in_strsT {x : Str} {xs : List Str} : oIn (.str x) (.tup (xs.map .str)) = some (.bl (decide (x ∈ xs))) := by
  simp only [oIn, fIn, D.flat?, flats_str, inV_str, Option.map_some]
theorem in_two {x a b : Str} : oIn (.str x) (.tup [.str a, .str b]) = some (.bl (decide (x = a) || decide (x = b))) := by
  have := in_strsT (x := x) (xs := [a, b])
  simpa using this
/-! ### as first told -/
def nubA {α : Type} [DecidableEq α] : List α → List α → List α
  | acc, [] => acc
  | acc, x :: xs => nubA (if x ∈ acc then acc else acc ++ [x]) xs
theorem nubA_mem {α : Type} [DecidableEq α] {a : α} : ∀ {xs acc : List α}, a ∈ nubA acc xs ↔ a ∈ acc ∨ a ∈ xs
  | [], acc => by simp [nubA]
  | x :: xs, acc => by
    rw [nubA, nubA_mem]
    by_cases h : x ∈ acc
    · rw [if_pos h]
      constructor
      · rintro (z | z)
        · exact .inl z
        · exact .inr (List.mem_cons_of_mem _ z)
      · rintro (z | z)
        · exact .inl z
        · rcases List.mem_cons.mp z with rfl | z
          · exact .inl h
          · exact .inr z
    · rw [if_neg h]
      simp [or_assoc]
theorem nubA_nodup {α : Type} [DecidableEq α] : ∀ {xs acc : List α}, acc.Nodup → (nubA acc xs).Nodup
  | [], acc, h => h
  | x :: xs, acc, h => by
    rw [nubA]
    refine nubA_nodup ?_
    split
    · exact h
    · rename_i n
      rw [List.nodup_append]
      exact ⟨h, by simp, fun a ha b hb => by rw [List.mem_singleton.mp hb]; rintro rfl; exact n ha⟩
theorem nubA_len {α : Type} [DecidableEq α] : ∀ {xs acc : List α}, (nubA acc xs).length ≤ acc.length + xs.length
  | [], acc => by simp [nubA]
  | x :: xs, acc => by
    rw [nubA]
    refine Nat.le_trans nubA_len ?_
    split <;> simp <;> omega
abbrev nub {α : Type} [DecidableEq α] (xs : List α) : List α := nubA [] xs
theorem ixOf_sk {s : Str} {xs : List Str} : (ixOf (xs.map sk) (sk s)).isSome = decide (s ∈ xs) := by
  have := ixOf_T (k := fun x : Str => x) (s := s) (xs := xs)
  simpa using this
theorem mkD_nub : ∀ {xs acc : List Str}, mkD (xs.map fun x => .tup [.str x, .bl true]) (acc.map sk) (acc.map fun _ => D.bl true) = some (dT true (fun x => x) (fun _ => .bl true) (nubA acc xs))
  | [], acc => rfl
  | x :: xs, acc => by
    have e := ixOf_sk (s := x) (xs := acc)
    simp only [List.map_cons, mkD, RL.keyOf, Option.bind_some, putKs, putVs, nubA]
    cases q : ixOf (acc.map sk) (sk x) with
    | none =>
      have hx : x ∉ acc := by
        rw [q] at e
        simpa using e
      simp only [q, if_neg hx]
      have := mkD_nub (xs := xs) (acc := acc ++ [x])
      simpa using this
    | some j =>
      have hx : x ∈ acc := by
        rw [q] at e
        simpa using e
      simp only [q, if_pos hx]
      have same : (acc.map fun _ => D.bl true).set j (.bl true) = acc.map fun _ => D.bl true := by
        apply List.ext_getElem?
        intro i
        rw [List.getElem?_set]
        split
        · rename_i h
          subst h
          rw [List.getElem?_map, List.length_map]
          split
          · rename_i h2
            rw [List.getElem?_eq_getElem h2]; rfl
          · rename_i h2
            rw [List.getElem?_eq_none (by omega)]; rfl
        · rfl
      rw [same]
      exact mkD_nub
theorem dict_nub {o : Bool} {xs : List Str} : fDict (.lst o (xs.map fun x => .tup [.str x, .bl true])) = some (dT true (fun x => x) (fun _ => .bl true) (nub xs)) := mkD_nub (acc := [])
end RL

namespace RN
open PySem RL
def t__law_mixed_0 : RL.Env → SRes := (sAsg (.nm 2) true (s2 opMod (s2 opAdd (s2 opAdd (s2 opMul (sVarB 0) (sC (.int 48271))) (s2 opMul (sC (.int 7919)) (sVarB 1))) (sC (.int 11))) (sC (.int 1000003))))
def t__law_mixed_1 : RL.Env → SRes := (sRet (s2 opMod (s2 opMul (s2 opMod (s2 opMul (sVarB 2) (sVarB 2)) (sC (.int 1000003))) (sVarB 2)) (sC (.int 1000003))))
def b__law_mixed : RL.Env → SRes := (sThen t__law_mixed_0
    t__law_mixed_1)
def f__law_mixed : List D → FR := runDef 3 [] b__law_mixed
def t__law_names_0 : RL.Env → SRes := (sAsg (.nm 2) true (sC (.str "abcdefghijklmnopqrstuvwxyz0123456789")))
def l__law_names_1 : RL.Env → Res D := (sLc (sI rng1 (sCons (sC (.int 6)) sNil)) (.nm 10) [10] sYes (sCl (sIx (sVarB 2) (s2 opMod (sCallF 2 f__law_mixed (sCons (sVar 0) (sCons (sVar 10) sNil))) (sC (.int 36))))))
def t__law_names_2 : RL.Env → SRes := (sAsg (.nm 3) true l__law_names_1)
def t__law_names_3 : RL.Env → SRes := (sAsg (.nm 4) true (s2 opMod (sCallF 2 f__law_mixed (sCons (sVar 0) (sCons (sC (.int 8)) sNil))) (sC (.int 6))))
def t__law_names_4 : RL.Env → SRes := (sAsg (.nm 5) true (s2 opAdd (s2 opAdd (sVarB 4) (sC (.int 1))) (s2 opMod (sCallF 2 f__law_mixed (sCons (sVar 0) (sCons (sC (.int 9)) sNil))) (s2 opSub (sC (.int 6)) (sVarB 4)))))
def t__law_names_5 : RL.Env → SRes := (sAsg (.nm 6) true (sIx (sLst (sCons (sC (.int 1)) (sCons (sC (.int 5)) (sCons (sC (.int 7)) (sCons (sC (.int 11)) (sCons (sC (.int 13)) (sCons (sC (.int 17)) sNil))))))) (s2 opMod (sCallF 2 f__law_mixed (sCons (sVar 0) (sCons (sC (.int 10)) sNil))) (sC (.int 6)))))
def t__law_names_6 : RL.Env → SRes := (sAsg (.nm 7) false (sLst sNil))
def t__law_names_7 : RL.Env → SRes := (sAsg (.nm 9) true (sCl (sIx (sVarB 2) (s2 opMod (s2 opAdd (sCallF 2 f__law_mixed (sCons (sVar 0) (sCons (sC (.int 11)) sNil))) (s2 opMul (sVarB 6) (sVarB 8))) (sC (.int 36))))))
def t__law_names_8 : RL.Env → SRes := (sMut mAppend (plVar 7) (sCons (sM1 fJoin (sC (.str "")) (s2 opAdd (s2 opAdd (sSl (sVarB 3) sPn (sPs (sVarB 4))) (sLst (sCons (sVar 9) sNil))) (sSl (sVarB 3) (sPs (s2 opAdd (sVarB 4) (sC (.int 1)))) (sPs (sVarB 5))))) sNil))
def k__law_names_9 : RL.Env → SRes := (sThen t__law_names_7
    t__law_names_8)
def t__law_names_9 : RL.Env → SRes := (sFor (sI rng1 (sCons (s2 opAdd (sVarB 1) (sC (.int 1))) sNil)) (.nm 8)
    k__law_names_9)
def l__law_names_10 : RL.Env → Res D := (sLc (sSeq (sVarB 7)) (.nm 11) [11] (sTest (s2 opNe (sVarB 11) (sC (.str "all")))) (sVar 11))
def t__law_names_11 : RL.Env → SRes := (sRet (sSl l__law_names_10 sPn (sPs (sVarB 1))))
def b__law_names : RL.Env → SRes := (sThen t__law_names_0
    (sThen t__law_names_2
    (sThen t__law_names_3
    (sThen t__law_names_4
    (sThen t__law_names_5
    (sThen t__law_names_6
    (sThen t__law_names_9
    t__law_names_11)))))))
def f__law_names : List D → FR := runDef 12 [] b__law_names
end RN

/-! RL, the laws' drawn names. -/
namespace RN
open PySem RL L2
theorem mixed_eq {n k : Int} (hk : -(2 ^ 64) < k ∧ k < 2 ^ 64) : ∃ m, f__law_mixed [.int n, .int k] = .ok (.int m) [] ∧ 0 ≤ m ∧ m < 1000003 := by
  have m1 := mulOk_r (i := n) (j := 48271) (by decide) (by decide)
  have m2 := mulOk_r (i := 7919) hk.1 hk.2
  have hm (x : Int) : 0 ≤ x % 1000003 ∧ x % 1000003 < 1000003 := ⟨Int.emod_nonneg _ (by decide), Int.emod_lt_of_pos _ (by decide)⟩
  have r0 := hm (n * 48271 + 7919 * k + 11)
  generalize hr : (n * 48271 + 7919 * k + 11) % 1000003 = r at *
  have m3 := mulOk_r (i := r) (j := r) (by omega) (by omega)
  have s0 := hm (r * r)
  generalize hs : r * r % 1000003 = s at *
  have m4 := mulOk_r (i := s) (j := r) (by omega) (by omega)
  refine ⟨s * r % 1000003, ?_, hm _⟩
  rw [f__law_mixed, runDef_ap]
  simp [b__law_mixed, t__law_mixed_0, t__law_mixed_1, entry, opMul_i m1, opMul_i m2, opMul_i m3, opMul_i m4, opMod_i (show (1000003 : Int) ≠ 0 by decide), Int.fmod_eq_emod_of_nonneg, hr, hs]
/-- the number drawn -/
def mixI (n k : Int) : Int := let r := (n * 48271 + 7919 * k + 11) % 1000003; r * r % 1000003 * r % 1000003
theorem mix_eq {n k : Int} (hk : -(2 ^ 64) < k ∧ k < 2 ^ 64) : f__law_mixed [.int n, .int k] = .ok (.int (mixI n k)) [] := by
  have m1 := mulOk_r (i := n) (j := 48271) (by decide) (by decide)
  have m2 := mulOk_r (i := 7919) hk.1 hk.2
  have hm (x : Int) : 0 ≤ x % 1000003 ∧ x % 1000003 < 1000003 := ⟨Int.emod_nonneg _ (by decide), Int.emod_lt_of_pos _ (by decide)⟩
  unfold mixI
  have r0 := hm (n * 48271 + 7919 * k + 11)
  generalize hr : (n * 48271 + 7919 * k + 11) % 1000003 = r at *
  have m3 := mulOk_r (i := r) (j := r) (by omega) (by omega)
  have s0 := hm (r * r)
  simp only
  generalize hs : r * r % 1000003 = s at *
  have m4 := mulOk_r (i := s) (j := r) (by omega) (by omega)
  rw [f__law_mixed, runDef_ap]
  simp [b__law_mixed, t__law_mixed_0, t__law_mixed_1, entry, opMul_i m1, opMul_i m2, opMul_i m3, opMul_i m4, opMod_i (show (1000003 : Int) ≠ 0 by decide), Int.fmod_eq_emod_of_nonneg, hr, hs]
theorem mix_in (n k : Int) : 0 ≤ mixI n k ∧ mixI n k < 1000003 := ⟨Int.emod_nonneg _ (by decide), Int.emod_lt_of_pos _ (by decide)⟩
/-! ### names -/
def signs : List Nat := [97, 98, 99, 100, 101, 102, 103, 104, 105, 106, 107, 108, 109, 110, 111, 112, 113, 114, 115, 116, 117, 118, 119, 120, 121, 122, 48, 49, 50, 51, 52, 53, 54, 55, 56, 57]
abbrev sS : Str := "abcdefghijklmnopqrstuvwxyz0123456789"
theorem signs_eq : sS.cps.toList = signs := by decide +kernel
theorem sS_len : sS.length = 36 := by decide +kernel
def one (c : Nat) : Str := ⟨#[c]⟩
/-- the sign at a place -/
def sg (i : Int) : Nat := signs.getD i.toNat 0
theorem sg_at {i : Int} (h0 : 0 ≤ i) (h : i < 36) : opIx (.str sS) (.int i) = some (.str (one (sg i))) := by
  obtain ⟨n, rfl⟩ := Int.eq_ofNat_of_zero_le h0
  have hz : sS.length ≤ sizeLine := by rw [sS_len]; decide
  show (if sS.length ≤ sizeLine then (atI sS.cps.toList ((n : Nat) : Int)).map fun c => D.str ⟨#[c]⟩ else none) = _
  rw [if_pos hz, signs_eq, RL.atI_nat]
  have hn : n < signs.length := by show n < 36; omega
  rw [List.getElem?_eq_getElem hn]
  show _ = some (D.str (one (signs.getD (n : Int).toNat 0)))
  simp [one, List.getD, List.getElem?_eq_getElem hn]
theorem sg_mem {i : Int} (h0 : 0 ≤ i) (h : i < 36) : sg i ∈ signs := by
  obtain ⟨n, rfl⟩ := Int.eq_ofNat_of_zero_le h0
  have hn : n < signs.length := by show n < 36; omega
  simp [sg, List.getD, List.getElem?_eq_getElem hn]
theorem signs_nodup : signs.Nodup := by decide
theorem sg_inj {i j : Int} (h0 : 0 ≤ i) (h : i < 36) (g0 : 0 ≤ j) (g : j < 36) (e : sg i = sg j) : i = j := by
  obtain ⟨n, rfl⟩ := Int.eq_ofNat_of_zero_le h0
  obtain ⟨m, rfl⟩ := Int.eq_ofNat_of_zero_le g0
  have hn : n < signs.length := by show n < 36; omega
  have hm : m < signs.length := by show m < 36; omega
  simp only [sg, List.getD, Int.toNat_natCast, List.getElem?_eq_getElem hn, List.getElem?_eq_getElem hm, Option.getD_some] at e
  have := (List.getElem_inj signs_nodup).mp e
  omega
/-- a name -/
structure Nm (x : Str) : Prop where
  sg : ∀ c ∈ x.cps.toList, c ∈ signs
  lo : 1 ≤ x.length
  hi : x.length ≤ 6
  all : x ≠ "all"
theorem join_ones : ∀ cs : List Nat, Txt.join "" (cs.map one) = ⟨cs.toArray⟩ := by
  intro cs
  rw [show Txt.join "" (cs.map one) = Str.join "" (cs.map one) from StrLaws.glued_eq_join _ _]
  apply TL.ext_tl
  rw [TL.tl_join]
  show TL.joinL (TL.tl "") ((cs.map one).map TL.tl) = cs
  have e : TL.tl ("" : Str) = [] := by decide +kernel
  rw [e]
  induction cs with
  | nil => rfl
  | cons c cs ih =>
    cases cs with
    | nil => rfl
    | cons d cs =>
      show TL.tl (one c) ++ ([] ++ TL.joinL [] ((one d :: cs.map one).map TL.tl)) = c :: d :: cs
      rw [List.nil_append]
      have : TL.joinL [] ((one d :: cs.map one).map TL.tl) = d :: cs := ih
      rw [this]
      rfl
/-- a row of signs with one sign exchanged -/
def rowAt (row : List Nat) (a l : Nat) (c : Nat) : List Nat := row.take a ++ [c] ++ (row.drop (a + 1)).take (l - (a + 1))
theorem rowAt_at {row : List Nat} {a l c : Nat} (h : a < row.length) : (rowAt row a l c)[a]? = some c := by
  unfold rowAt
  rw [List.append_assoc, List.getElem?_append_right (by rw [List.length_take]; omega), List.length_take, Nat.min_eq_left (by omega), Nat.sub_self]
  rfl
theorem rowAt_len {row : List Nat} {a l c : Nat} (h : a < row.length) (hl : a < l) (hl2 : l ≤ row.length) : (rowAt row a l c).length = l := by
  unfold rowAt
  simp only [List.length_append, List.length_take, List.length_drop, List.length_singleton]
  omega
def stepOk (s : Int) : Prop := s = 1 ∨ s = 5 ∨ s = 7 ∨ s = 11 ∨ s = 13 ∨ s = 17
theorem step_inj {s m : Int} {i j : Nat} (h : stepOk s) (hi : i < 36) (hj : j < 36) (e : (m + s * i) % 36 = (m + s * j) % 36) : i = j := by
  rcases h with rfl | rfl | rfl | rfl | rfl | rfl <;> omega
/-- the k-th name -/
def nameOf (row : List Nat) (a l : Nat) (m s : Int) (k : Nat) : Str := ⟨(rowAt row a l (sg ((m + s * k) % 36))).toArray⟩
theorem nameOf_inj {row : List Nat} {a l : Nat} {m s : Int} {i j : Nat} (ha : a < row.length) (h : stepOk s) (hi : i < 36) (hj : j < 36) (e : nameOf row a l m s i = nameOf row a l m s j) : i = j := by
  have e1 : rowAt row a l (sg ((m + s * i) % 36)) = rowAt row a l (sg ((m + s * j) % 36)) := by
    have := congrArg (fun x : Str => x.cps.toList) e
    simpa [nameOf] using this
  have e2 := rowAt_at (l := l) (c := sg ((m + s * i) % 36)) ha
  rw [e1, rowAt_at ha] at e2
  exact step_inj h hi hj (sg_inj (Int.emod_nonneg _ (by decide)) (Int.emod_lt_of_pos _ (by decide)) (Int.emod_nonneg _ (by decide)) (Int.emod_lt_of_pos _ (by decide)) (Option.some.inj e2).symm)
abbrev sone (c : Nat) : D := .str (one c)
abbrev Enm (n : Int) (many : Nat) (row : List Nat) (a l : Nat) (s : Int) (fd : List Str) (c8 c9 : Option D) : RL.Env :=
  [some (.int n), some (.int many), some (.str sS), some (.lst false (row.map sone)), some (.int a), some (.int l), some (.int s), some (.lst true (fd.map .str)), c8, c9, none, none]
theorem cleanL_ones (xs : List Nat) : cleanL (xs.map sone) = true := cleanL_all.mpr fun d hd => by
  obtain ⟨i, _, rfl⟩ := List.mem_map.mp hd
  rfl
theorem frzL_ones : ∀ xs : List Nat, frzL (xs.map sone) = xs.map sone
  | [] => by simp [frzL]
  | n :: ns => by simp [frzL, D.frz, frzL_ones ns]
theorem strsD_ones (ys : List Nat) : strsD (ys.map sone) = some (ys.map one) := by
  have := strsD_map (ys.map one)
  rwa [List.map_map] at this
theorem ones_len (ys : List Nat) : ((ys.map one).map (·.length)).sum = ys.length := by
  induction ys with
  | nil => rfl
  | cons y ys ih => simp only [List.map_cons, List.sum_cons, ih, List.length_cons]; show 1 + _ = _; omega
theorem join_row {cs : List Nat} (h : cs.length ≤ 100) {o : Bool} : fJoin "" (.lst o (cs.map sone)) = some (.str ⟨cs.toArray⟩) := by
  have e : ("" : Str).length = 0 := by decide +kernel
  have k : joinOk "" (cs.map one) = true := by
    unfold joinOk
    rw [ones_len, e, List.length_map]
    exact decide_eq_true (by omega)
  show ((strsD (cs.map sone)).bind fun ys => if joinOk "" ys = true then some (D.str (Txt.join "" ys)) else none) = _
  rw [strsD_ones, Option.bind_some, if_pos k, join_ones]
theorem k_eq {n : Int} {many : Nat} {row : List Nat} {a l : Nat} {s : Int} {fd : List Str} {c9 : Option D} {k : Nat} (hr : row.length = 6) (ha : a < 6) (hl : a < l) (hl2 : l ≤ 6) (hs : stepOk s) (hf : fd.length ≤ 100) :
    k__law_names_9 (Enm n many row a l s fd (some (.int k)) c9) = .nx (Enm n many row a l s (fd ++ [nameOf row a l (mixI n 11) s k]) (some (.int k)) (some (sone (sg ((mixI n 11 + s * k) % 36))))) := by
  have m := mix_eq (n := n) (k := 11) (by decide)
  have mk : mulOk s k = true := by
    refine mulOk_l ?_ ?_ <;> (rcases hs with rfl | rfl | rfl | rfl | rfl | rfl <;> decide)
  generalize hv : mixI n 11 = v at *
  have g := sg_at (i := (v + s * k) % 36) (Int.emod_nonneg _ (by decide)) (Int.emod_lt_of_pos _ (by decide))
  have md := mod_pos' (i := v + s * k) (j := 36) (by decide)
  generalize hc : sg ((v + s * k) % 36) = c at *
  have s1 := opSl_l (o := false) (lo := none) (hi := some (a : Int)) (cleanL_ones row)
  have s2 := opSl_l (o := false) (lo := some ((a : Int) + 1)) (hi := some (l : Int)) (cleanL_ones row)
  rw [cut_0n, ← List.map_take] at s1
  rw [show ((a : Int) + 1) = ((a + 1 : Nat) : Int) by omega, cut_nn, ← List.map_drop, ← List.map_take] at s2
  have a1 := opAdd_l (o := true) (o' := true) (cleanL_ones (row.take a)) (show cleanL [sone c] = true from by simp) (by simp [sizeLine]; omega)
  have a2 := opAdd_l (o := true) (o' := true) (xs := (row.take a).map sone ++ [sone c]) (by rw [cleanL_app, cleanL_ones]; rfl) (cleanL_ones ((row.drop (a + 1)).take (l - (a + 1)))) (by simp [sizeLine]; omega)
  have e : (row.take a).map sone ++ [sone c] ++ ((row.drop (a + 1)).take (l - (a + 1))).map sone = (rowAt row a l c).map sone := by simp [rowAt]
  rw [e] at a2
  have jn := join_row (cs := rowAt row a l c) (o := true) (by rw [rowAt_len (by omega) hl (by omega)]; omega)
  have fl : fd.length < sizeLine := by unfold sizeLine; omega
  have z1 : 1 ≤ sizeLine := by decide
  have e2 : (⟨(rowAt row a l c).toArray⟩ : Str) = nameOf row a l v s k := by rw [nameOf, hc]
  unfold k__law_names_9
  simp [t__law_names_7, t__law_names_8, m, opMul_i mk, md, g, s1, a1, z1, a2, jn, fl, e2, -List.map_take, -List.map_drop, -List.map_append]
  rw [show ((a : Int) + 1) = ((a + 1 : Nat) : Int) by omega, s2]
  simp [a1, a2, jn, fl, e2, -List.map_take, -List.map_drop, -List.map_append]
  simp
/-- the row of signs -/
def rowOf (n : Int) : List Nat := (List.range 6).map fun (j : Nat) => sg (mixI n j % 36)
theorem row_lc {n : Int} {a b c d e f g h i j : Option D} : l__law_names_1 [some (.int n), a, some (.str sS), b, c, d, e, f, g, h, i, j] = .ok (.lst true ((rowOf n).map sone)) := by
  refine sLc_ok (ds := (List.range 6).map fun k => D.int ((k : Nat) : Int)) (by
    simp [rng1, ups]
    rfl) (by simp [sizeLine]) ?_
  unfold rowOf
  rw [List.map_map]
  refine lcRun_of fun k hk => ?_
  have hk : k < 6 := List.mem_range.mp hk
  have m := mix_eq (n := n) (k := (k : Int)) (by omega)
  have md := mod_pos' (i := mixI n k) (j := 36) (by decide)
  have gg := sg_at (i := mixI n k % 36) (Int.emod_nonneg _ (by decide)) (Int.emod_lt_of_pos _ (by decide))
  simp [lcOne, wipeE, Tg.set, m, md, gg]
theorem all_lc {xs : List Str} {n p a b c d e f g i j : Option D} (hl : xs.length ≤ 1000) : l__law_names_10 [n, p, a, b, c, d, e, some (.lst true (xs.map .str)), f, g, i, j] = .ok (.lst true ((xs.filter (fun x : Str => !decide (x = ("all" : Str)))).map .str)) := by
  refine sLc_ok (ds := xs.map .str) (by simp) (by rw [List.length_map]; unfold sizeLine; omega) ?_
  refine lcRun_fl fun x hx => ?_
  simp [lcOne, wipeE, Tg.set]
  split <;> simp
theorem filter_len {xs : List Str} (h : xs.Nodup) (a : Str) : xs.length ≤ (xs.filter fun x : Str => !decide (x = a)).length + 1 := by
  induction xs with
  | nil => simp
  | cons x xs ih =>
    obtain ⟨h1, h2⟩ := List.nodup_cons.mp h
    rw [List.filter_cons]
    by_cases e : x = a
    · subst e
      have : (xs.filter fun y => !decide (y = x)) = xs := List.filter_eq_self.mpr fun y hy => by
        have : y ≠ x := fun z => h1 (z ▸ hy)
        simp [this]
      simp [this]
    · simp [e]
      exact Nat.le_trans (Nat.le_of_eq rfl) (by have := ih h2; omega)
theorem mod_in (a : Int) {b : Int} (h : 0 < b) : 0 ≤ a % b ∧ a % b < b := ⟨Int.emod_nonneg _ (by omega), Int.emod_lt_of_pos _ h⟩
theorem loop_eq {n : Int} {many a l : Nat} {s : Int} {row : List Nat} (hr : row.length = 6) (h : many ≤ 34) (ha : a < 6) (hl : a < l) (hl2 : l ≤ 6) (hs : stepOk s) :
    ∃ c8 c9, forRun (.nm 8) k__law_names_9 (ups 0 (many + 1)) (Enm n many row a l s [] none none) = .nx (Enm n many row a l s ((List.range (many + 1)).map (nameOf row a l (mixI n 11) s)) c8 c9) := by
  obtain ⟨ρ', hf, hI⟩ := for_inv (t := .nm 8) (S := k__law_names_9) (fun k ρ => ∃ c8 c9, ρ = Enm n many row a l s ((List.range k).map (nameOf row a l (mixI n 11) s)) c8 c9)
    (ds := ups 0 (many + 1)) (k := 0) (ρ := Enm n many row a l s [] none none) ⟨none, none, rfl⟩ (by
      rintro i d ρ hd ⟨c8, c9, rfl⟩
      have hi : i < many + 1 := by
        have := (List.getElem?_eq_some_iff.mp hd).1
        rwa [ups_len] at this
      have ed : d = .int (i : Nat) := by
        simp [ups, hi] at hd
        exact hd.symm
      subst ed
      have st := k_eq (n := n) (many := many) (row := row) (a := a) (l := l) (s := s) (fd := (List.range (0 + i)).map (nameOf row a l (mixI n 11) s)) (c9 := c9) (k := i) hr ha hl hl2 hs (by simp; omega)
      refine ⟨_, _, by simp [Tg.set], st, some (.int (i : Nat)), some (sone (sg ((mixI n 11 + s * (i : Int)) % 36))), ?_⟩
      rw [Nat.zero_add, List.range_succ, List.map_append]
      rfl)
  obtain ⟨c8, c9, rfl⟩ := hI
  rw [ups_len, Nat.zero_add] at hf
  exact ⟨c8, c9, hf⟩
theorem pick6 {m : Int} (h0 : 0 ≤ m) (h6 : m < 6) : ∃ s, atI [D.int 1, .int 5, .int 7, .int 11, .int 13, .int 17] m = some (.int s) ∧ stepOk s := by
  obtain ⟨sv, hs1, hs2⟩ := ix_mem (xs := [D.int 1, .int 5, .int 7, .int 11, .int 13, .int 17]) h0 h6
  simp only [List.mem_cons, List.not_mem_nil, or_false] at hs2
  rcases hs2 with rfl | rfl | rfl | rfl | rfl | rfl
  · exact ⟨1, hs1, by simp [stepOk]⟩
  · exact ⟨5, hs1, by simp [stepOk]⟩
  · exact ⟨7, hs1, by simp [stepOk]⟩
  · exact ⟨11, hs1, by simp [stepOk]⟩
  · exact ⟨13, hs1, by simp [stepOk]⟩
  · exact ⟨17, hs1, by simp [stepOk]⟩
theorem run_eq {n m8 m9 m10 : Int} {many a r : Nat} {s : Int} {xs : List Str} {c8 c9 : Option D} (h : many ≤ 34) (hx : xs.length ≤ 1000) (m8e : f__law_mixed [D.int n, D.int 8] = FR.ok (D.int m8) []) (m9e : f__law_mixed [D.int n, D.int 9] = FR.ok (D.int m9) [])
    (m10e : f__law_mixed [D.int n, D.int 10] = FR.ok (D.int m10) []) (q8 : opMod (D.int m8) (D.int 6) = some (D.int a)) (q9 : opMod (D.int m9) (D.int (6 - ↑a)) = some (D.int r)) (q10 : opMod (D.int m10) (D.int 6) = some (D.int (m10 % 6)))
    (hs1 : atI [D.int 1, D.int 5, D.int 7, D.int 11, D.int 13, D.int 17] (m10 % 6) = some (D.int s)) (hf : forRun (.nm 8) k__law_names_9 (ups 0 (many + 1)) (Enm n many (rowOf n) a (a + 1 + r) s [] none none) = .nx (Enm n many (rowOf n) a (a + 1 + r) s xs c8 c9)) :
    f__law_names [.int n, .int many] = .ok (.lst true (((xs.filter fun x : Str => !decide (x = ("all" : Str))).take many).map .str)) [] := by
  have hr1 : rng1 [.int ((many : Int) + 1)] = some (ups 0 (many + 1)) := by
    have : inR ((many : Int) + 1) = true := by simp [inR]; omega
    simp [rng1, this]
  have sl := opSl_l (o := true) (lo := none) (hi := some (many : Int)) (cleanL_strs (ns := xs.filter fun x : Str => !decide (x = ("all" : Str))))
  rw [cut_0n, ← List.map_take] at sl
  have z6 : 6 ≤ sizeLine := by decide
  have e0 : t__law_names_0 [some (.int n), some (.int many), none, none, none, none, none, none, none, none, none, none] = .nx [some (.int n), some (.int many), some (.str sS), none, none, none, none, none, none, none, none, none] := by simp [t__law_names_0]
  have e2 : t__law_names_2 [some (.int n), some (.int many), some (.str sS), none, none, none, none, none, none, none, none, none] = .nx [some (.int n), some (.int many), some (.str sS), some (.lst false ((rowOf n).map sone)), none, none, none, none, none, none, none, none] := by
    simp [t__law_names_2, row_lc, frzL_ones]
  generalize rowOf n = row at *
  have e3 : t__law_names_3 [some (.int n), some (.int many), some (.str sS), some (.lst false (row.map sone)), none, none, none, none, none, none, none, none] = .nx [some (.int n), some (.int many), some (.str sS), some (.lst false (row.map sone)), some (.int a), none, none, none, none, none, none, none] := by
    simp [t__law_names_3, m8e, q8]
  have e4 : t__law_names_4 [some (.int n), some (.int many), some (.str sS), some (.lst false (row.map sone)), some (.int a), none, none, none, none, none, none, none] = .nx [some (.int n), some (.int many), some (.str sS), some (.lst false (row.map sone)), some (.int a), some (.int (a + 1 + r : Nat)), none, none, none, none, none, none] := by
    simp [t__law_names_4, m9e, q9]
  have e5 : t__law_names_5 [some (.int n), some (.int many), some (.str sS), some (.lst false (row.map sone)), some (.int a), some (.int (a + 1 + r : Nat)), none, none, none, none, none, none] = .nx [some (.int n), some (.int many), some (.str sS), some (.lst false (row.map sone)), some (.int a), some (.int (a + 1 + r : Nat)), some (.int s), none, none, none, none, none] := by
    simp [t__law_names_5, m10e, q10, hs1, z6]
  have e6 : t__law_names_6 [some (.int n), some (.int many), some (.str sS), some (.lst false (row.map sone)), some (.int a), some (.int (a + 1 + r : Nat)), some (.int s), none, none, none, none, none] = .nx (Enm n many row a (a + 1 + r) s [] none none) := by
    simp [t__law_names_6]
  have e9 : t__law_names_9 (Enm n many row a (a + 1 + r) s [] none none) = .nx (Enm n many row a (a + 1 + r) s xs c8 c9) := by
    have e : (sCons (s2 opAdd (sVarB 1) (sC (.int 1))) sNil) (Enm n many row a (a + 1 + r) s [] none none) = .ok [.int ((many : Int) + 1)] := by simp
    rw [t__law_names_9, sFor_ap, sI_ap, e, bind_ok, hr1, opt_some, stm_ok]
    exact hf
  have e11 : t__law_names_11 (Enm n many row a (a + 1 + r) s xs c8 c9) = .rt (.lst true (((xs.filter fun x : Str => !decide (x = ("all" : Str))).take many).map .str)) (Enm n many row a (a + 1 + r) s xs c8 c9) := by
    rw [t__law_names_11, sRet_ap, sSl_ap, all_lc hx]
    simp [sl, -List.map_take]
  rw [f__law_names, runDef_ap]
  unfold b__law_names
  rw [sThen_ap, show entry 12 [D.int n, D.int many] = [some (.int n), some (.int many), none, none, none, none, none, none, none, none, none, none] from rfl, e0, andThen_nx, sThen_ap, e2, andThen_nx, sThen_ap, e3, andThen_nx, sThen_ap, e4, andThen_nx, sThen_ap, e5, andThen_nx, sThen_ap, e6, andThen_nx, sThen_ap, e9, andThen_nx, e11]
  rfl
theorem rowOf_len (n : Int) : (rowOf n).length = 6 := by simp [rowOf]
theorem rowOf_mem (n : Int) : ∀ c ∈ rowOf n, c ∈ signs := fun c hc => by
  obtain ⟨j, _, rfl⟩ := List.mem_map.mp hc
  exact sg_mem (mod_in _ (by decide)).1 (mod_in _ (by decide)).2
theorem list_eq {row : List Nat} {many a l : Nat} {m s : Int} (hr : row.length = 6) (hm : ∀ c ∈ row, c ∈ signs) (h : many ≤ 34) (ha : a < 6) (hl : a < l) (hl2 : l ≤ 6) (hs : stepOk s) : ∃ xs : List Str, xs = (((List.range (many + 1)).map (nameOf row a l m s)).filter fun x : Str => !decide (x = ("all" : Str))).take many ∧
    xs.Nodup ∧ xs.length = many ∧ ∀ x ∈ xs, Nm x := by
  generalize hxs : (List.range (many + 1)).map (nameOf row a l m s) = xs
  have nd : xs.Nodup := by
    rw [← hxs]
    refine List.Pairwise.map (R := fun i j => i ≠ j ∧ i < 36 ∧ j < 36) _ (fun i j hij e => hij.1 (nameOf_inj (by omega) hs hij.2.1 hij.2.2 e)) ?_
    refine List.Pairwise.imp_of_mem (R := fun i j => i ≠ j) (fun {i j} hi hj hne => ⟨hne, ?_, ?_⟩) List.nodup_range
    · have := List.mem_range.mp hi; omega
    · have := List.mem_range.mp hj; omega
  have xl : xs.length = many + 1 := by rw [← hxs]; simp
  have nms : ∀ x ∈ xs, (∀ c ∈ x.cps.toList, c ∈ signs) ∧ x.length = l := by
    intro x hx
    rw [← hxs] at hx
    obtain ⟨k, hk, rfl⟩ := List.mem_map.mp hx
    refine ⟨fun c hc => ?_, ?_⟩
    · simp only [nameOf, rowAt, List.toList_toArray, List.mem_append, List.mem_singleton] at hc
      rcases hc with (hc | hc) | hc
      · exact hm c (List.mem_of_mem_take hc)
      · rw [hc]; exact sg_mem (mod_in _ (by decide)).1 (mod_in _ (by decide)).2
      · exact hm c (List.mem_of_mem_drop (List.mem_of_mem_take hc))
    · show (rowAt _ _ _ _).toArray.size = _
      rw [List.size_toArray, rowAt_len (by omega) (by omega) (by omega)]
  refine ⟨_, rfl, (nd.sublist List.filter_sublist).sublist (List.take_sublist _ _), ?_, fun x hx => ?_⟩
  · rw [List.length_take]
    have := filter_len nd "all"
    omega
  · have hx := List.mem_filter.mp (List.mem_of_mem_take hx)
    obtain ⟨n1, n2⟩ := nms x hx.1
    exact ⟨n1, by omega, by omega, by simpa using hx.2⟩
/-- the drawn names: unlike, as many as asked for -/
theorem names_eq {n : Int} {many : Nat} (h : many ≤ 34) : ∃ xs : List Str, f__law_names [.int n, .int many] = .ok (.lst true (xs.map .str)) [] ∧ xs.Nodup ∧ xs.length = many ∧ ∀ x ∈ xs, Nm x := by
  have m8 := mix_eq (n := n) (k := 8) (by decide)
  have m9 := mix_eq (n := n) (k := 9) (by decide)
  have m10 := mix_eq (n := n) (k := 10) (by decide)
  generalize mixI n 8 = v8 at m8
  generalize mixI n 9 = v9 at m9
  generalize mixI n 10 = v10 at m10
  have q8 := mod_pos' (i := v8) (j := 6) (by decide)
  obtain ⟨a, ha⟩ := Int.eq_ofNat_of_zero_le (mod_in v8 (b := 6) (by decide)).1
  have ha6 := (mod_in v8 (b := 6) (by decide)).2
  rw [ha] at q8 ha6
  have q9 := mod_pos' (i := v9) (j := 6 - (a : Int)) (by omega)
  obtain ⟨r, hr⟩ := Int.eq_ofNat_of_zero_le (mod_in v9 (b := 6 - (a : Int)) (by omega)).1
  have hr6 := (mod_in v9 (b := 6 - (a : Int)) (by omega)).2
  rw [hr] at q9 hr6
  have q10 := mod_pos' (i := v10) (j := 6) (by decide)
  obtain ⟨s, hs1, hs⟩ := pick6 (mod_in v10 (b := 6) (by decide)).1 (mod_in v10 (b := 6) (by decide)).2
  obtain ⟨c8, c9, hf⟩ := loop_eq (n := n) (a := a) (l := a + 1 + r) (rowOf_len n) h (by omega) (by omega) (by omega) hs
  obtain ⟨xs, e, h1, h2, h3⟩ := list_eq (m := mixI n 11) (rowOf_len n) (rowOf_mem n) h (a := a) (l := a + 1 + r) (by omega) (by omega) (by omega) hs
  have R := run_eq h (by rw [List.length_map, List.length_range]; omega) m8 m9 m10 q8 q9 q10 hs1 hf
  rw [← e] at R
  exact ⟨xs, R, h1, h2, h3⟩
end RN

namespace RH
open PySem RL
abbrev cs_bearing : List Str := ["LevelHandicap", "FactorHandicap", "YardHandicap", "MileHandicap"]
abbrev iso_Handicap : List (Str × Bool) := [("LevelHandicap", true), ("FactorHandicap", true), ("YardHandicap", true), ("MileHandicap", true)]
def t_Handicap___init___0 : RL.Env → SRes := (sSetF cs_bearing "bearing" true (plVar 0) (sVar 1))
def b_Handicap___init__ : RL.Env → SRes := t_Handicap___init___0
def f_Handicap___init__ : List D → FR := runDef 2 [0] b_Handicap___init__
def t_Handicap_word_0 : RL.Env → SRes := (sRet (sC (.str "level")))
def b_Handicap_word : RL.Env → SRes := t_Handicap_word_0
def f_Handicap_word : List D → FR := runDef 1 [] b_Handicap_word
def t_FactorHandicap_word_0 : RL.Env → SRes := (sRet (sC (.str "factor")))
def b_FactorHandicap_word : RL.Env → SRes := t_FactorHandicap_word_0
def f_FactorHandicap_word : List D → FR := runDef 1 [] b_FactorHandicap_word
def t_YardHandicap_word_0 : RL.Env → SRes := (sRet (sC (.str "yard")))
def b_YardHandicap_word : RL.Env → SRes := t_YardHandicap_word_0
def f_YardHandicap_word : List D → FR := runDef 1 [] b_YardHandicap_word
def t_MileHandicap_word_0 : RL.Env → SRes := (sRet (sC (.str "mile")))
def b_MileHandicap_word : RL.Env → SRes := t_MileHandicap_word_0
def f_MileHandicap_word : List D → FR := runDef 1 [] b_MileHandicap_word
abbrev tab_word : List (Str × (List D → FR)) := [("LevelHandicap", f_Handicap_word), ("FactorHandicap", f_FactorHandicap_word), ("YardHandicap", f_YardHandicap_word), ("MileHandicap", f_MileHandicap_word)]
def t_Handicap_plain_0 : RL.Env → SRes := (sRet (sTup (sCons (sMeth "word" tab_word 1 (sVar 0) sNil) (sCons (sCl (sFld cs_bearing "bearing" (sVarB 0))) sNil))))
def b_Handicap_plain : RL.Env → SRes := t_Handicap_plain_0
def f_Handicap_plain : List D → FR := runDef 1 [] b_Handicap_plain
def t_Handicap_text_0 : RL.Env → SRes := (sRet (s2 opAdd (s2 opAdd (sMeth "word" tab_word 1 (sVar 0) sNil) (sC (.str " "))) (sCall (on1 fStr) (sCons (sFld cs_bearing "bearing" (sVarB 0)) sNil))))
def b_Handicap_text : RL.Env → SRes := t_Handicap_text_0
def f_Handicap_text : List D → FR := runDef 1 [] b_Handicap_text
abbrev tab_word1 : List (Str × (List D → FR)) := [("LevelHandicap", f_Handicap_word)]
def t_LevelHandicap_plain_0 : RL.Env → SRes := (sRet (sTup (sCons (sMeth "word" tab_word1 1 (sVar 0) sNil) sNil)))
def b_LevelHandicap_plain : RL.Env → SRes := t_LevelHandicap_plain_0
def f_LevelHandicap_plain : List D → FR := runDef 1 [] b_LevelHandicap_plain
def t_LevelHandicap_text_0 : RL.Env → SRes := (sRet (sMeth "word" tab_word1 1 (sVar 0) sNil))
def b_LevelHandicap_text : RL.Env → SRes := t_LevelHandicap_text_0
def f_LevelHandicap_text : List D → FR := runDef 1 [] b_LevelHandicap_text
def t_handicap_of_0 : RL.Env → SRes := (sAsg (.nm 1) true (sCl (sIx (sVarB 0) (sC (.int 0)))))
def t_handicap_of_1 : RL.Env → SRes := (sRet (sMake "FactorHandicap" 2 f_Handicap___init__ (sCons (sCl (sIx (sVarB 0) (sC (.int 1)))) sNil)))
def t_handicap_of_2 : RL.Env → SRes := (sIfS (sTest (s2 opEq (sVarB 1) (sC (.str "factor")))) t_handicap_of_1 sNext)
def t_handicap_of_3 : RL.Env → SRes := (sRet (sMake "YardHandicap" 2 f_Handicap___init__ (sCons (sCl (sIx (sVarB 0) (sC (.int 1)))) sNil)))
def t_handicap_of_4 : RL.Env → SRes := (sIfS (sTest (s2 opEq (sVarB 1) (sC (.str "yard")))) t_handicap_of_3 sNext)
def t_handicap_of_5 : RL.Env → SRes := (sRet (sMake "MileHandicap" 2 f_Handicap___init__ (sCons (sCl (sIx (sVarB 0) (sC (.int 1)))) sNil)))
def t_handicap_of_6 : RL.Env → SRes := (sIfS (sTest (s2 opEq (sVarB 1) (sC (.str "mile")))) t_handicap_of_5 sNext)
def t_handicap_of_7 : RL.Env → SRes := (sRet (sMake "LevelHandicap" 2 f_Handicap___init__ (sCons (sC (.int 0)) sNil)))
def b_handicap_of : RL.Env → SRes := (sThen t_handicap_of_0
    (sThen t_handicap_of_2
    (sThen t_handicap_of_4
    (sThen t_handicap_of_6
    t_handicap_of_7))))
def f_handicap_of : List D → FR := runDef 2 [] b_handicap_of
end RH

/-! RL, the program's handicaps. -/
namespace RH
open PySem RL L2
inductive Hc where
  | level | factor (b : Int) | yard (b : Int) | mile (b : Int)
abbrev wL : Str := "level"
abbrev wF : Str := "factor"
abbrev wY : Str := "yard"
abbrev wM : Str := "mile"
def Hc.word : Hc → Str
  | level => wL
  | factor _ => wF
  | yard _ => wY
  | mile _ => wM
def Hc.cls : Hc → Str
  | level => "LevelHandicap"
  | factor _ => "FactorHandicap"
  | yard _ => "YardHandicap"
  | mile _ => "MileHandicap"
def Hc.num : Hc → Int
  | level => 0
  | factor b => b
  | yard b => b
  | mile b => b
def Hc.obj (o : Bool) (h : Hc) : D := .obj o h.cls ["bearing"] [.int h.num]
def Hc.plain : Hc → D
  | level => .tup [.str wL]
  | factor b => .tup [.str wF, .int b]
  | yard b => .tup [.str wY, .int b]
  | mile b => .tup [.str wM, .int b]
theorem ne_wb : ("word" : Str) ≠ "bearing" := by decide +kernel
theorem ne_pb : ("plain" : Str) ≠ "bearing" := by decide +kernel
theorem ne_tb : ("text" : Str) ≠ "bearing" := by decide +kernel
theorem ne_cb : ("corrected" : Str) ≠ "bearing" := by decide +kernel
theorem n1 : wL ≠ wF := by decide +kernel
theorem n2 : wL ≠ wY := by decide +kernel
theorem n3 : wL ≠ wM := by decide +kernel
theorem n4 : wF ≠ wY := by decide +kernel
theorem n5 : wF ≠ wM := by decide +kernel
theorem n6 : wY ≠ wM := by decide +kernel
theorem k1 : ("LevelHandicap" : Str) ≠ "FactorHandicap" := by decide +kernel
theorem k2 : ("LevelHandicap" : Str) ≠ "YardHandicap" := by decide +kernel
theorem k3 : ("LevelHandicap" : Str) ≠ "MileHandicap" := by decide +kernel
theorem k4 : ("FactorHandicap" : Str) ≠ "YardHandicap" := by decide +kernel
theorem k5 : ("FactorHandicap" : Str) ≠ "MileHandicap" := by decide +kernel
theorem k6 : ("YardHandicap" : Str) ≠ "MileHandicap" := by decide +kernel
/-- a table with a row for each class -/
theorem tab4 {a b c d : List D → FR} (h : Hc) : tabGo [("LevelHandicap", a), ("FactorHandicap", b), ("YardHandicap", c), ("MileHandicap", d)] h.cls = some (match h with | .level => a | .factor _ => b | .yard _ => c | .mile _ => d) := by
  cases h <;> simp [tabGo, Hc.cls, k1, k2, k3, k4, k5, k6, k1.symm, k2.symm, k3.symm, k4.symm, k5.symm, k6.symm]
theorem cls_mem (h : Hc) : h.cls ∈ cs_bearing := by cases h <;> simp [Hc.cls]
@[simp] theorem obj_clean {h : Hc} : (h.obj false).clean = true := by simp [Hc.obj, D.clean, cleanL]
@[simp] theorem obj_frz {o : Bool} {h : Hc} : (h.obj o).frz = h.obj false := by simp [Hc.obj, D.frz, frzL]
@[simp] theorem plain_clean {h : Hc} : h.plain.clean = true := by cases h <;> simp [Hc.plain]
@[simp] theorem plain_frz {h : Hc} : h.plain.frz = h.plain := by cases h <;> simp [Hc.plain]
theorem bearing {o : Bool} {h : Hc} : getF cs_bearing "bearing" (h.obj o) = some (.int h.num) := by
  have := cls_mem h
  rw [Hc.obj, getF, if_pos this]
  simp [ixOf]
theorem sz : ("FactorHandicap" : Str) ∈ cs_bearing := by simp
/-- the __init__ -/
theorem init_eq {c : Str} {b : Int} (h : c ∈ cs_bearing) : f_Handicap___init__ [.obj true c [] [], .int b] = .ok .non [.obj true c ["bearing"] [.int b]] := by
  have h' := h
  simp only [cs_bearing, List.mem_cons, List.not_mem_nil, or_false] at h'
  rw [f_Handicap___init__, runDef_ap]
  simp [b_Handicap___init__, t_Handicap___init___0, entry, setF, h', putFN, putFD]
theorem make_eq {c : Str} {b : Int} (h : c ∈ cs_bearing) : mkRes c 2 f_Handicap___init__ [.int b] = .ok (.obj true c ["bearing"] [.int b]) := by
  simp [mkRes, init_eq h]
theorem of_eq (h : Hc) : f_handicap_of [h.plain] = .ok (h.obj true) [] := by
  have m1 := make_eq (c := "FactorHandicap") (b := h.num) (by simp)
  have m2 := make_eq (c := "YardHandicap") (b := h.num) (by simp)
  have m3 := make_eq (c := "MileHandicap") (b := h.num) (by simp)
  have m4 := make_eq (c := "LevelHandicap") (b := 0) (by simp)
  rw [f_handicap_of, runDef_ap]
  cases h <;> simp only [Hc.num] at m1 m2 m3 <;> simp [b_handicap_of, t_handicap_of_0, t_handicap_of_2, t_handicap_of_4, t_handicap_of_6, t_handicap_of_7, t_handicap_of_1, t_handicap_of_3, t_handicap_of_5, entry, Hc.plain, n1, n2, n3, n4, n5, n6, n1.symm, n2.symm, n3.symm, n4.symm, n5.symm, n6.symm, m1, m2, m3, m4, Hc.obj, Hc.cls, Hc.num]
theorem meth4 {m : Str} {a b c d : List D → FR} {n : Nat} {S : RL.Env → Res D} {Ss : RL.Env → Res (List D)} {ρ : RL.Env} {o : Bool} {h : Hc} {ds : List D} (hm : m ≠ "bearing") (hs : S ρ = .ok (h.obj o)) (ha : Ss ρ = .ok ds) (hn : ds.length + 1 = n) :
    sMeth m [("LevelHandicap", a), ("FactorHandicap", b), ("YardHandicap", c), ("MileHandicap", d)] n S Ss ρ = ((match h with | .level => a | .factor _ => b | .yard _ => c | .mile _ => d) (h.obj false :: frzL ds)).res := by
  have t4 := tab4 (a := a) (b := b) (c := c) (d := d) h
  have fz : frzL (h.obj o :: ds) = h.obj false :: frzL ds := by rw [frzL_cons, obj_frz]
  rw [sMeth_ap, hs, bind_ok]
  have e : h.obj o = .obj o h.cls ["bearing"] [.int h.num] := rfl
  rw [e]
  simp only
  rw [if_pos (by simpa using hm), t4]
  simp only
  rw [ha, bind_ok, if_pos hn, ← e, fz]
theorem word_eq {S : RL.Env → Res D} {ρ : RL.Env} {o : Bool} {h : Hc} (hs : S ρ = .ok (h.obj o)) : sMeth "word" tab_word 1 S sNil ρ = .ok (.str h.word) := by
  rw [tab_word, meth4 (n := 1) (Ss := sNil) (ds := []) ne_wb hs rfl rfl]
  cases h <;> rfl
theorem word1_eq {S : RL.Env → Res D} {ρ : RL.Env} {o : Bool} (hs : S ρ = .ok (Hc.level.obj o)) : sMeth "word" tab_word1 1 S sNil ρ = .ok (.str wL) := by
  have n0 : ("word" : Str) ∉ [("bearing" : Str)] := by simpa using ne_wb
  rw [sMeth_ap, hs, bind_ok]
  simp only [Hc.obj, tab_word1, tabGo, Hc.cls]
  rw [if_pos n0]
  simp
  rfl
theorem plainL : f_LevelHandicap_plain [Hc.level.obj false] = .ok Hc.level.plain [] := by
  have z : 1 ≤ sizeLine := by decide
  rw [f_LevelHandicap_plain, runDef_ap]
  unfold b_LevelHandicap_plain t_LevelHandicap_plain_0
  simp only [sRet_ap, sTup_ap, sCons_ap, sNil_ap]
  rw [word1_eq (o := false) (by simp [entry])]
  simp [z, Hc.plain]
theorem plainH {h : Hc} (hl : h ≠ .level) : f_Handicap_plain [h.obj false] = .ok h.plain [] := by
  have z : 2 ≤ sizeLine := by decide
  rw [f_Handicap_plain, runDef_ap]
  unfold b_Handicap_plain t_Handicap_plain_0
  simp only [sRet_ap, sTup_ap, sCons_ap, sNil_ap]
  rw [word_eq (o := false) (h := h) (by simp [entry])]
  simp [z, entry, bearing]
  cases h <;> first | rfl | exact absurd rfl hl
theorem plain_eq (h : Hc) : (match h with | .level => f_LevelHandicap_plain | .factor _ => f_Handicap_plain | .yard _ => f_Handicap_plain | .mile _ => f_Handicap_plain) [h.obj false] = .ok h.plain [] := by
  cases h
  · exact plainL
  all_goals exact plainH (by simp)
/-- the words of a class's line -/
def Hc.text : Hc → Str
  | .level => wL
  | .factor b => wF ++ Str.ofString " " ++ Str.ofString (toString b)
  | .yard b => wY ++ Str.ofString " " ++ Str.ofString (toString b)
  | .mile b => wM ++ Str.ofString " " ++ Str.ofString (toString b)
theorem textH {h : Hc} (hl : h ≠ .level) (hb : sml h.num = true) : f_Handicap_text [h.obj false] = .ok (.str h.text) [] := by
  have l1 : h.word.length ≤ 10 := by cases h <;> simp only [Hc.word] <;> decide +kernel
  have l2 : (Str.ofString " ").length = 1 := by decide +kernel
  have l3 : (Str.ofString (toString h.num)).length ≤ 1901 := by
    simp only [sml, decide_eq_true_eq] at hb
    rw [PySem.ofString_length]
    exact int_text_length_le (a := h.num) (k := 1900) (by decide) hb
  have k1 : h.word.length + (Str.ofString " ").length ≤ sizeLine := by unfold sizeLine; omega
  have k2 : (h.word ++ Str.ofString " ").length + (Str.ofString (toString h.num)).length ≤ sizeLine := by rw [Str.length_append]; unfold sizeLine; omega
  rw [f_Handicap_text, runDef_ap]
  unfold b_Handicap_text t_Handicap_text_0
  simp only [sRet_ap, s2_ap]
  rw [word_eq (o := false) (h := h) (by simp [entry])]
  have e : fStr (.int h.num) = some (.str (Str.ofString (toString h.num))) := by simp [fStr, hb]
  simp only [bind_ok, sC_ap, opAdd_s k1, opt_some, sCall_ap, sCons_ap, sFld_ap, sNil_ap, sVarB_ap (d := h.obj false) (show (entry 1 [h.obj false])[0]? = _ from rfl), bearing, on1_ap, e, opAdd_s k2, stm_ok, endF_rt0]
  cases h <;> first | rfl | exact absurd rfl hl
theorem textL : f_LevelHandicap_text [Hc.level.obj false] = .ok (.str Hc.level.text) [] := by
  rw [f_LevelHandicap_text, runDef_ap]
  unfold b_LevelHandicap_text t_LevelHandicap_text_0
  rw [sRet_ap, word1_eq (o := false) (by simp [entry])]
  rfl
end RH

namespace RM
open PySem RL RN
def t__law_cell_at_0 : RL.Env → SRes := (sRet (sCl (sIx (sVarB 0) (sVarB 1))))
def t__law_cell_at_1 : RL.Env → SRes := (sIfS (sTest (s2 opLt (sVarB 1) (sCall (on1 fLenX) (sCons (sVarB 0) sNil)))) t__law_cell_at_0 sNext)
def b__law_cell_at : RL.Env → SRes := (sThen t__law_cell_at_1
    (sRet (sC (.int 0))))
def f__law_cell_at : List D → FR := runDef 2 [] b__law_cell_at
def t__law_handicap_0 : RL.Env → SRes := (sAsg (.nm 1) true (sIx (sLst (sCons (sC (.int 1000)) (sCons (s2 opAdd (sC (.int 1)) (s2 opMod (sCallF 2 f__law_mixed (sCons (sVar 0) (sCons (sC (.int 31)) sNil))) (sC (.int 5000)))) (sCons (s2 opAdd (sC (.int 900)) (s2 opMod (sCallF 2 f__law_mixed (sCons (sVar 0) (sCons (sC (.int 31)) sNil))) (sC (.int 200)))) sNil)))) (s2 opMod (sCallF 2 f__law_mixed (sCons (sVar 0) (sCons (sC (.int 32)) sNil))) (sC (.int 3)))))
def t__law_handicap_1 : RL.Env → SRes := (sAsg (.nm 2) true (sIx (sLst (sCons (sC (.str "level")) (sCons (sC (.str "factor")) (sCons (sC (.str "yard")) (sCons (sC (.str "mile")) sNil))))) (s2 opMod (sCallF 2 f__law_mixed (sCons (sVar 0) (sCons (sC (.int 30)) sNil))) (sC (.int 4)))))
def t__law_handicap_2 : RL.Env → SRes := (sRet (sIf (sTest (s2 opEq (sVarB 2) (sC (.str "level")))) (sTup (sCons (sVar 2) sNil)) (sTup (sCons (sVar 2) (sCons (sVar 1) sNil)))))
def b__law_handicap : RL.Env → SRes := (sThen t__law_handicap_0
    (sThen t__law_handicap_1
    t__law_handicap_2))
def f__law_handicap : List D → FR := runDef 3 [] b__law_handicap
def t__law_meeting_0 : RL.Env → SRes := (sAsg (.nm 3) true (sCallF 2 f__law_names (sCons (sCallF 2 f__law_mixed (sCons (sCallF 2 f__law_cell_at (sCons (sVar 0) (sCons (sC (.int 0)) sNil))) (sCons (sC (.int 1)) sNil))) (sCons (sC (.int 6)) sNil))))
def t__law_meeting_1 : RL.Env → SRes := (sAsg (.nm 4) false (sLst sNil))
def t__law_meeting_2 : RL.Env → SRes := (sMut mAppend (plVar 4) (sCons (sTup (sCons (sCl (sIx (sVarB 3) (sVarB 5))) (sCons (sCallF 1 f__law_handicap (sCons (sCallF 2 f__law_mixed (sCons (sCallF 2 f__law_cell_at (sCons (sVar 0) (sCons (sC (.int 0)) sNil))) (sCons (s2 opAdd (sC (.int 20)) (sVarB 5)) sNil))) sNil)) sNil))) sNil))
def t__law_meeting_3 : RL.Env → SRes := (sFor (sI rng1 (sCons (s2 opAdd (sC (.int 1)) (s2 opMod (sCallF 2 f__law_cell_at (sCons (sVar 0) (sCons (sC (.int 0)) sNil))) (sC (.int 6)))) sNil)) (.nm 5)
    t__law_meeting_2)
def t__law_meeting_4 : RL.Env → SRes := (sAsg (.nm 6) true (sCallF 2 f__law_names (sCons (sCallF 2 f__law_mixed (sCons (sCallF 2 f__law_cell_at (sCons (sVar 0) (sCons (sC (.int 1)) sNil))) (sCons (sC (.int 2)) sNil))) (sCons (sC (.int 24)) sNil))))
def t__law_meeting_5 : RL.Env → SRes := (sAsg (.nm 7) true (sSl (sCallF 2 f__law_names (sCons (sCallF 2 f__law_mixed (sCons (sCallF 2 f__law_cell_at (sCons (sVar 0) (sCons (sC (.int 2)) sNil))) (sCons (sC (.int 3)) sNil))) (sCons (sC (.int 3)) sNil))) sPn (sPs (s2 opAdd (sC (.int 1)) (s2 opMod (sCallF 2 f__law_cell_at (sCons (sVar 0) (sCons (sC (.int 2)) sNil))) (sC (.int 3)))))))
def t__law_meeting_6 : RL.Env → SRes := (sAsg (.nm 8) false (sLst sNil))
def t__law_meeting_7 : RL.Env → SRes := (sAsg (.nm 14) true (sCallF 2 f__law_mixed (sCons (sCallF 2 f__law_cell_at (sCons (sVar 0) (sCons (sC (.int 1)) sNil))) (sCons (s2 opAdd (sC (.int 40)) (sVarB 5)) sNil))))
def t__law_meeting_8 : RL.Env → SRes := (sMut mAppend (plVar 8) (sCons (sTup (sCons (sCl (sIx (sVarB 6) (sVarB 5))) (sCons (sCl (sIx (sIx (sVarB 4) (s2 opMod (sVarB 14) (sCall (on1 fLenX) (sCons (sVarB 4) sNil)))) (sC (.int 0)))) (sCons (sCl (sIx (sVarB 7) (s2 opMod (s2 opFdiv (sVarB 14) (sC (.int 6))) (sCall (on1 fLenX) (sCons (sVarB 7) sNil))))) sNil)))) sNil))
def k__law_meeting_9 : RL.Env → SRes := (sThen t__law_meeting_7
    t__law_meeting_8)
def t__law_meeting_9 : RL.Env → SRes := (sFor (sI rng1 (sCons (s2 opAdd (sC (.int 1)) (s2 opMod (sCallF 2 f__law_mixed (sCons (sCallF 2 f__law_cell_at (sCons (sVar 0) (sCons (sC (.int 1)) sNil))) (sCons (sC (.int 4)) sNil))) (sVarB 1))) sNil)) (.nm 5)
    k__law_meeting_9)
def t__law_meeting_10 : RL.Env → SRes := (sAsg (.nm 9) true (s2 opMod (s2 opFdiv (sCallF 2 f__law_cell_at (sCons (sVar 0) (sCons (sC (.int 2)) sNil))) (sC (.int 3))) (sC (.int 4))))
def l__law_meeting_11 : RL.Env → Res D := (sLc (sI rng1 (sCons (sVarB 9) sNil)) (.nm 5) [5] sYes (s2 opAdd (sC (.int 1)) (s2 opMod (sCallF 2 f__law_mixed (sCons (sCallF 2 f__law_cell_at (sCons (sVar 0) (sCons (sC (.int 2)) sNil))) (sCons (s2 opAdd (sC (.int 70)) (sVarB 5)) sNil))) (sIx (sLst (sCons (sC (.int 5)) (sCons (sC (.int 5)) (sCons (sC (.int 12)) sNil)))) (s2 opMod (sVarB 5) (sC (.int 3)))))))
def t__law_meeting_12 : RL.Env → SRes := (sAsg (.nm 10) true l__law_meeting_11)
def l__law_meeting_13 : RL.Env → Res D := (sLc (sSeq (sVarB 8)) (.nm 16) [16] sYes (sCl (sIx (sVarB 16) (sC (.int 2)))))
def t__law_meeting_14 : RL.Env → SRes := (sAsg (.nm 11) true (s2 opAdd l__law_meeting_13 (sLst (sCons (sC (.str "all")) sNil))))
def t__law_meeting_15 : RL.Env → SRes := (sAsg (.nm 12) false (sLst sNil))
def t__law_meeting_16 : RL.Env → SRes := (sAsg (.nm 13) true (sCallF 2 f__law_names (sCons (sCallF 2 f__law_mixed (sCons (sCallF 2 f__law_cell_at (sCons (sVar 0) (sCons (sC (.int 3)) sNil))) (sCons (sC (.int 5)) sNil))) (sCons (sC (.int 12)) sNil))))
def t__law_meeting_17 : RL.Env → SRes := (sAsg (.nm 14) true (sCallF 2 f__law_mixed (sCons (sCallF 2 f__law_cell_at (sCons (sVar 0) (sCons (sC (.int 3)) sNil))) (sCons (s2 opAdd (sC (.int 80)) (sVarB 5)) sNil))))
def t__law_meeting_18 : RL.Env → SRes := (sAsg (.nm 15) true (sIx (sLst (sCons (sC (.int 0)) (sCons (s2 opMod (sVarB 14) (sC (.int 40000))) (sCons (s2 opMod (sVarB 14) (sC (.int 359000))) sNil)))) (s2 opMod (sVarB 14) (sC (.int 3)))))
def t__law_meeting_19 : RL.Env → SRes := (sMut mAppend (plVar 12) (sCons (sTup (sCons (sCl (sIx (sVarB 13) (sVarB 5))) (sCons (sCl (sIx (sVarB 11) (s2 opMod (s2 opFdiv (sVarB 14) (sC (.int 3))) (sCall (on1 fLenX) (sCons (sVarB 11) sNil))))) (sCons (sVar 15) (sCons (s2 opMod (s2 opFdiv (sVarB 14) (sC (.int 100))) (sIx (sLst (sCons (sC (.int 1)) (sCons (sC (.int 300)) (sCons (sC (.int 10000)) sNil)))) (s2 opMod (sVarB 14) (sC (.int 3))))) sNil))))) sNil))
def k__law_meeting_21 : RL.Env → SRes := (sThen t__law_meeting_17
    (sThen t__law_meeting_18
    t__law_meeting_19))
def t__law_meeting_20 : RL.Env → SRes := (sFor (sI rng1 (sCons (s2 opMod (sCallF 2 f__law_mixed (sCons (sCallF 2 f__law_cell_at (sCons (sVar 0) (sCons (sC (.int 3)) sNil))) (sCons (sC (.int 6)) sNil))) (s2 opAdd (sVarB 2) (sC (.int 1)))) sNil)) (.nm 5)
    k__law_meeting_21)
def t__law_meeting_21 : RL.Env → SRes := (sRet (sTup (sCons (sCall (on1 fTux) (sCons (sVarB 4) sNil)) (sCons (sCall (on1 fTuple) (sCons (sVarB 8) sNil)) (sCons (sCall (on1 fTuple) (sCons (s1 fSortSet (sVarB 10)) sNil)) (sCons (sCall (on1 fTuple) (sCons (sVarB 12) sNil)) sNil))))))
def b__law_meeting : RL.Env → SRes := (sThen t__law_meeting_0
    (sThen t__law_meeting_1
    (sThen t__law_meeting_3
    (sThen t__law_meeting_4
    (sThen t__law_meeting_5
    (sThen t__law_meeting_6
    (sThen t__law_meeting_9
    (sThen t__law_meeting_10
    (sThen t__law_meeting_12
    (sThen t__law_meeting_14
    (sThen t__law_meeting_15
    (sThen t__law_meeting_16
    (sThen t__law_meeting_20
    t__law_meeting_21)))))))))))))
def f__law_meeting : List D → FR := runDef 17 [] b__law_meeting
end RM

/-! RL, the laws' drawn meetings: cells and handicaps. -/
namespace RM
open PySem RL L2
/-- a cell of the script -/
def cellI (ns : List Int) (k : Nat) : Int := ns.getD k 0
theorem cell_eq {ns : List Int} {k : Nat} : f__law_cell_at [.scr ns, .int (k : Int)] = .ok (.int (cellI ns k)) [] := by
  rw [f__law_cell_at, runDef_ap]
  by_cases h : k < ns.length
  · have e : opIx (.scr ns) (.int (k : Int)) = some (.int (cellI ns k)) := by
      show (atI ns (k : Int)).map D.int = _
      rw [RL.atI_nat, List.getElem?_eq_getElem h]
      simp [cellI, List.getD, List.getElem?_eq_getElem h]
    simp [b__law_cell_at, t__law_cell_at_1, t__law_cell_at_0, entry, h, e]
  · have e : cellI ns k = 0 := by simp [cellI, List.getD, List.getElem?_eq_none (Nat.le_of_not_lt h)]
    simp [b__law_cell_at, t__law_cell_at_1, t__law_cell_at_0, entry, h, e]
theorem cell_0 {ns : List Int} : f__law_cell_at [.scr ns, .int 0] = .ok (.int (cellI ns 0)) [] := cell_eq (k := 0)
theorem cell_1 {ns : List Int} : f__law_cell_at [.scr ns, .int 1] = .ok (.int (cellI ns 1)) [] := cell_eq (k := 1)
theorem cell_2 {ns : List Int} : f__law_cell_at [.scr ns, .int 2] = .ok (.int (cellI ns 2)) [] := cell_eq (k := 2)
theorem cell_3 {ns : List Int} : f__law_cell_at [.scr ns, .int 3] = .ok (.int (cellI ns 3)) [] := cell_eq (k := 3)
/-- a drawn handicap -/
def HcOk (h : RH.Hc) : Prop := h = .level ∨ (1 ≤ h.num ∧ h.num ≤ 5000)
theorem hand_eq (n : Int) : ∃ h : RH.Hc, f__law_handicap [.int n] = .ok h.plain [] ∧ HcOk h := by
  have m30 := RN.mix_eq (n := n) (k := 30) (by decide)
  have m31 := RN.mix_eq (n := n) (k := 31) (by decide)
  have m32 := RN.mix_eq (n := n) (k := 32) (by decide)
  generalize RN.mixI n 30 = v30 at m30
  generalize RN.mixI n 31 = v31 at m31
  generalize RN.mixI n 32 = v32 at m32
  have q4 := mod_pos' (i := v30) (j := 4) (by decide)
  have q3 := mod_pos' (i := v32) (j := 3) (by decide)
  have q5 := mod_pos' (i := v31) (j := 5000) (by decide)
  have q2 := mod_pos' (i := v31) (j := 200) (by decide)
  have b4 := RN.mod_in v30 (b := 4) (by decide)
  have b3 := RN.mod_in v32 (b := 3) (by decide)
  have b5 := RN.mod_in v31 (b := 5000) (by decide)
  have b2 := RN.mod_in v31 (b := 200) (by decide)
  generalize v30 % 4 = w at *
  generalize v32 % 3 = i at *
  generalize v31 % 5000 = x at *
  generalize v31 % 200 = y at *
  obtain ⟨c, c1, c2⟩ := ix_mem (xs := [D.int 1000, .int (1 + x), .int (900 + y)]) b3.1 b3.2
  obtain ⟨z, rfl, z1, z2⟩ : ∃ z : Int, c = .int z ∧ 1 ≤ z ∧ z ≤ 5000 := by
    simp only [List.mem_cons, List.not_mem_nil, or_false] at c2
    rcases c2 with rfl | rfl | rfl
    · exact ⟨_, rfl, by omega, by omega⟩
    · exact ⟨_, rfl, by omega, by omega⟩
    · exact ⟨_, rfl, by omega, by omega⟩
  obtain ⟨d, d1, d2⟩ := ix_mem (xs := [D.str RH.wL, .str RH.wF, .str RH.wY, .str RH.wM]) b4.1 b4.2
  have s3 : 3 ≤ sizeLine := by decide
  have s2 : 2 ≤ sizeLine := by decide
  have s1 : 1 ≤ sizeLine := by decide
  have s4 : 4 ≤ sizeLine := by decide
  have e0 : t__law_handicap_0 [some (.int n), none, none] = .nx [some (.int n), some (.int z), none] := by
    simp [t__law_handicap_0, m31, m32, q3, q5, q2, c1, s3]
  have e1 : t__law_handicap_1 [some (.int n), some (.int z), none] = .nx [some (.int n), some (.int z), some d.frz] := by
    simp [t__law_handicap_1, m30, q4, d1, s4]
  rw [f__law_handicap, runDef_ap]
  unfold b__law_handicap
  rw [sThen_ap, show entry 3 [D.int n] = [some (.int n), none, none] from rfl, e0, andThen_nx, sThen_ap, e1, andThen_nx]
  simp only [List.mem_cons, List.not_mem_nil, or_false] at d2
  rcases d2 with rfl | rfl | rfl | rfl
  · exact ⟨.level, by simp [t__law_handicap_2, RH.Hc.plain, D.frz, s1, s2], .inl rfl⟩
  · exact ⟨.factor z, by simp [t__law_handicap_2, RH.Hc.plain, D.frz, s1, s2, RH.n1.symm], .inr ⟨z1, z2⟩⟩
  · exact ⟨.yard z, by simp [t__law_handicap_2, RH.Hc.plain, D.frz, s1, s2, RH.n2.symm], .inr ⟨z1, z2⟩⟩
  · exact ⟨.mile z, by simp [t__law_handicap_2, RH.Hc.plain, D.frz, s1, s2, RH.n3.symm], .inr ⟨z1, z2⟩⟩
end RM

/-! RL, the laws' drawn meetings: classes. -/
namespace RM
open PySem RL L2
abbrev ClT := Str × RH.Hc
def clD (c : ClT) : D := .tup [.str c.1, c.2.plain]
theorem clD_clean (c : ClT) : (clD c).clean = true := by simp [clD, D.clean, cleanL]
theorem clD_frz (c : ClT) : (clD c).frz = clD c := by simp [clD, D.frz, frzL]
theorem frzL_of {α : Type} {f : α → D} (h : ∀ a, (f a).frz = f a) : ∀ xs : List α, frzL (xs.map f) = xs.map f
  | [] => by simp [frzL]
  | x :: xs => by simp [frzL, h x, frzL_of h xs]
theorem cleanL_of {α : Type} {f : α → D} (h : ∀ a, (f a).clean = true) (xs : List α) : cleanL (xs.map f) = true := cleanL_all.mpr fun d hd => by
  obtain ⟨i, _, rfl⟩ := List.mem_map.mp hd
  exact h i
theorem ix_str {o : Bool} {xs : List Str} {k : Nat} (h : k < xs.length) : opIx (.lst o (xs.map .str)) (.int (k : Int)) = some (.str (xs.getD k "")) := by
  show atI (xs.map D.str) (k : Int) = _
  rw [RL.atI_nat, List.getElem?_map, List.getElem?_eq_getElem h]
  simp [List.getD, List.getElem?_eq_getElem h]
/-- the rest of the environment -/
abbrev E1 (ns : List Int) (nb nr : Int) (nm : List Str) (cs : List ClT) (k : Option D) : RL.Env :=
  [some (.scr ns), some (.int nb), some (.int nr), some (.lst false (nm.map .str)), some (.lst true (cs.map clD)), k, none, none, none, none, none, none, none, none, none, none, none]
theorem cl_step {ns : List Int} {nb nr : Int} {nm : List Str} {cs : List ClT} {k : Nat} (hk : k < nm.length) (hc : cs.length ≤ 100) (hk2 : k ≤ 1000) :
    ∃ h : RH.Hc, HcOk h ∧ t__law_meeting_2 (E1 ns nb nr nm cs (some (.int (k : Int)))) = .nx (E1 ns nb nr nm (cs ++ [(nm.getD k "", h)]) (some (.int (k : Int)))) := by
  have m := RN.mix_eq (n := cellI ns 0) (k := 20 + (k : Int)) (by omega)
  obtain ⟨h, h1, h2⟩ := hand_eq (RN.mixI (cellI ns 0) (20 + (k : Int)))
  have s2 : 2 ≤ sizeLine := by decide
  have fl : cs.length < sizeLine := by unfold sizeLine; omega
  have ix := ix_str (o := false) hk
  refine ⟨h, h2, ?_⟩
  simp [t__law_meeting_2, cell_0, m, h1, s2, fl, ix, clD]
theorem cl_loop {ns : List Int} {nb nr : Int} {nm : List Str} {n : Nat} (hn : n ≤ nm.length) (hn2 : n ≤ 100) :
    ∃ (cs : List ClT) (k : Option D), forRun (.nm 5) t__law_meeting_2 (ups 0 n) (E1 ns nb nr nm [] none) = .nx (E1 ns nb nr nm cs k) ∧ cs.map (·.1) = nm.take n ∧ ∀ c ∈ cs, HcOk c.2 := by
  obtain ⟨ρ', hf, cs, k, rfl, h1, h2⟩ := for_inv (t := .nm 5) (S := t__law_meeting_2) (fun i ρ => ∃ cs k, ρ = E1 ns nb nr nm cs k ∧ cs.map (·.1) = nm.take i ∧ ∀ c ∈ cs, HcOk c.2)
    (ds := ups 0 n) (k := 0) (ρ := E1 ns nb nr nm [] none) ⟨[], none, rfl, by simp, by simp⟩ (by
      rintro i d ρ hd ⟨cs, k, rfl, h1, h2⟩
      have hi : i < n := by
        have := (List.getElem?_eq_some_iff.mp hd).1
        rwa [ups_len] at this
      have ed : d = .int (i : Nat) := by
        simp [ups, hi] at hd
        exact hd.symm
      subst ed
      rw [Nat.zero_add] at h1
      have cl : cs.length = i := by
        have := congrArg List.length h1
        rw [List.length_map, List.length_take] at this
        omega
      obtain ⟨h, g1, g2⟩ := cl_step (ns := ns) (nb := nb) (nr := nr) (nm := nm) (cs := cs) (k := i) (by omega) (by omega) (by omega)
      refine ⟨_, _, by simp [Tg.set], g2, _, _, rfl, ?_, ?_⟩
      · rw [Nat.zero_add, List.map_append, h1, List.take_succ]
        rw [List.getElem?_eq_getElem (by omega)]
        simp [List.getD, List.getElem?_eq_getElem (show i < nm.length by omega)]
      · intro c hc
        rcases List.mem_append.mp hc with hc | hc
        · exact h2 c hc
        · rw [List.mem_singleton.mp hc]; exact g1)
  rw [ups_len, Nat.zero_add] at h1
  exact ⟨cs, k, hf, h1, h2⟩
end RM

/-! RL, the laws' drawn meetings: boats. -/
namespace RM
open PySem RL L2
abbrev BtT := Str × Str × Str
def boatD (b : BtT) : D := .tup [.str b.1, .str b.2.1, .str b.2.2]
theorem boatD_clean (c : BtT) : (boatD c).clean = true := by simp [boatD, D.clean, cleanL]
theorem boatD_frz (c : BtT) : (boatD c).frz = boatD c := by simp [boatD, D.frz, frzL]
/-- one of a list, at a place that is a rest -/
theorem ix_one {α : Type} {f : α → D} {o : Bool} {xs : List α} {i : Int} (h : 0 < xs.length) : ∃ a ∈ xs, opIx (.lst o (xs.map f)) (.int (i % xs.length)) = some (f a) := by
  have b := RN.mod_in i (b := (xs.length : Int)) (by omega)
  obtain ⟨v, v1, v2⟩ := ix_mem (xs := xs.map f) b.1 (by rw [List.length_map]; exact b.2)
  obtain ⟨a, ha, rfl⟩ := List.mem_map.mp v2
  exact ⟨a, ha, v1⟩
abbrev E2 (ns : List Int) (nb nr : Int) (nm : List Str) (cs : List ClT) (k : Option D) (sl fl : List Str) (bs : List BtT) (m : Option D) : RL.Env :=
  [some (.scr ns), some (.int nb), some (.int nr), some (.lst false (nm.map .str)), some (.lst true (cs.map clD)), k, some (.lst false (sl.map .str)), some (.lst false (fl.map .str)), some (.lst true (bs.map boatD)), none, none, none, none, none, m, none, none]
theorem bt_step {ns : List Int} {nb nr : Int} {nm : List Str} {cs : List ClT} {sl fl : List Str} {bs : List BtT} {m0 : Option D} {k : Nat} (hk : k < sl.length) (hb : bs.length ≤ 100) (hk2 : k ≤ 1000) (hc : 0 < cs.length) (hf : 0 < fl.length) :
    ∃ (c : ClT) (f : Str) (m : Option D), c ∈ cs ∧ f ∈ fl ∧ k__law_meeting_9 (E2 ns nb nr nm cs (some (.int (k : Int))) sl fl bs m0) = .nx (E2 ns nb nr nm cs (some (.int (k : Int))) sl fl (bs ++ [(sl.getD k "", c.1, f)]) m) := by
  have m := RN.mix_eq (n := cellI ns 1) (k := 40 + (k : Int)) (by omega)
  generalize RN.mixI (cellI ns 1) (40 + (k : Int)) = v at m
  have z3 : 3 ≤ sizeLine := by decide
  have lt : bs.length < sizeLine := by unfold sizeLine; omega
  have ix := ix_str (o := false) hk
  have q1 := mod_pos' (i := v) (j := (cs.length : Int)) (by omega)
  have q2 := mod_pos' (i := v / 6) (j := (fl.length : Int)) (by omega)
  have q3 := fdiv_pos' (i := v) (j := 6) (by decide) (by decide)
  obtain ⟨c, c1, c2⟩ := ix_one (f := clD) (o := true) (xs := cs) (i := v) hc
  obtain ⟨f, f1, f2⟩ := ix_one (f := D.str) (o := false) (xs := fl) (i := v / 6) hf
  have c3 : opIx (clD c) (.int 0) = some (.str c.1) := rfl
  generalize hi : v % (cs.length : Int) = i at *
  generalize v / 6 = v6 at *
  generalize hj : v6 % (fl.length : Int) = j at *
  refine ⟨c, f, some (.int v), c1, f1, ?_⟩
  have e7 : t__law_meeting_7 (E2 ns nb nr nm cs (some (.int (k : Int))) sl fl bs m0) = .nx (E2 ns nb nr nm cs (some (.int (k : Int))) sl fl bs (some (.int v))) := by
    simp [t__law_meeting_7, cell_1, m]
  have e8 : t__law_meeting_8 (E2 ns nb nr nm cs (some (.int (k : Int))) sl fl bs (some (.int v))) = .nx (E2 ns nb nr nm cs (some (.int (k : Int))) sl fl (bs ++ [(sl.getD k "", c.1, f)]) (some (.int v))) := by
    simp [t__law_meeting_8, ix, q1, q2, q3, c2, c3, f2, z3, lt, boatD]
  rw [k__law_meeting_9, sThen_ap, e7, andThen_nx, e8]
theorem bt_loop {ns : List Int} {nb nr : Int} {nm : List Str} {cs : List ClT} {sl fl : List Str} {k0 : Option D} {n : Nat} (hn : n ≤ sl.length) (hn2 : n ≤ 100) (hc : 0 < cs.length) (hf : 0 < fl.length) :
    ∃ (bs : List BtT) (k m : Option D), forRun (.nm 5) k__law_meeting_9 (ups 0 n) (E2 ns nb nr nm cs k0 sl fl [] none) = .nx (E2 ns nb nr nm cs k sl fl bs m) ∧ bs.map (·.1) = sl.take n ∧ ∀ b ∈ bs, b.2.1 ∈ cs.map (·.1) ∧ b.2.2 ∈ fl := by
  obtain ⟨ρ', hf, bs, k, m, rfl, h1, h2⟩ := for_inv (t := .nm 5) (S := k__law_meeting_9) (fun i ρ => ∃ bs k m, ρ = E2 ns nb nr nm cs k sl fl bs m ∧ bs.map (·.1) = sl.take i ∧ ∀ b ∈ bs, b.2.1 ∈ cs.map (·.1) ∧ b.2.2 ∈ fl)
    (ds := ups 0 n) (k := 0) (ρ := E2 ns nb nr nm cs k0 sl fl [] none) ⟨[], k0, none, rfl, by simp, by simp⟩ (by
      rintro i d ρ hd ⟨bs, k, m, rfl, h1, h2⟩
      have hi : i < n := by
        have := (List.getElem?_eq_some_iff.mp hd).1
        rwa [ups_len] at this
      have ed : d = .int (i : Nat) := by
        simp [ups, hi] at hd
        exact hd.symm
      subst ed
      rw [Nat.zero_add] at h1
      have cl : bs.length = i := by
        have := congrArg List.length h1
        rw [List.length_map, List.length_take] at this
        omega
      obtain ⟨c, f, m', g1, g2, g3⟩ := bt_step (ns := ns) (nb := nb) (nr := nr) (nm := nm) (cs := cs) (sl := sl) (fl := fl) (bs := bs) (m0 := m) (k := i) (by omega) (by omega) (by omega) hc hf
      refine ⟨_, _, by simp [Tg.set], g3, _, _, _, rfl, ?_, ?_⟩
      · rw [Nat.zero_add, List.map_append, h1, List.take_succ]
        rw [List.getElem?_eq_getElem (by omega)]
        simp [List.getD, List.getElem?_eq_getElem (show i < sl.length by omega)]
      · intro b hb
        rcases List.mem_append.mp hb with hb | hb
        · exact h2 b hb
        · rw [List.mem_singleton.mp hb]; exact ⟨List.mem_map.mpr ⟨c, g1, rfl⟩, g2⟩)
  rw [ups_len, Nat.zero_add] at h1
  exact ⟨bs, k, m, hf, h1, h2⟩
end RM

/-! RL, the laws' drawn meetings: drops. -/
namespace RM
open PySem RL L2
def dropAt (c : Int) (k : Nat) : Int := 1 + RN.mixI c (70 + (k : Int)) % (if k = 2 then 12 else 5)
theorem dropAt_in (c : Int) (k : Nat) : 1 ≤ dropAt c k ∧ dropAt c k ≤ 12 := by
  unfold dropAt
  have h12 := RN.mod_in (RN.mixI c (70 + (k : Int))) (b := 12) (by decide)
  have h5 := RN.mod_in (RN.mixI c (70 + (k : Int))) (b := 5) (by decide)
  split <;> omega
abbrev E3 (ns : List Int) (nb nr : Int) (nm : List Str) (cs : List ClT) (k : Option D) (sl fl : List Str) (bs : List BtT) (mn dr tl rs cl : Option D) (m op bt : Option D) : RL.Env :=
  [some (.scr ns), some (.int nb), some (.int nr), some (.lst false (nm.map .str)), some (.lst true (cs.map clD)), k, some (.lst false (sl.map .str)), some (.lst false (fl.map .str)), some (.lst true (bs.map boatD)), mn, dr, tl, rs, cl, m, op, bt]
theorem ix_drop {k : Nat} (h : k < 3) : ∃ j : Int, opMod (.int (k : Int)) (.int 3) = some (.int j) ∧ opIx (.lst true [.int 5, .int 5, .int 12]) (.int j) = some (.int (if k = 2 then 12 else 5)) := by
  have k3 : k = 0 ∨ k = 1 ∨ k = 2 := by omega
  rcases k3 with rfl | rfl | rfl
  · exact ⟨0, mod_pos' (i := 0) (j := 3) (by decide), rfl⟩
  · exact ⟨1, mod_pos' (i := 1) (j := 3) (by decide), rfl⟩
  · exact ⟨2, mod_pos' (i := 2) (j := 3) (by decide), rfl⟩
theorem drop_one {ns : List Int} {kk v w j u : Int} {a b c d e f g h i l m n o p q r t : Option D} (mm : RN.f__law_mixed [.int (cellI ns 2), .int (70 + kk)] = .ok (.int v) []) (j1 : opMod (.int kk) (.int 3) = some (.int j))
    (j2 : opIx (.lst true [.int 5, .int 5, .int 12]) (.int j) = some (.int w)) (qq : opMod (.int v) (.int w) = some (.int u)) :
    lcOne (.nm 5) [5] sYes (s2 opAdd (sC (.int 1)) (s2 opMod (sCallF 2 RN.f__law_mixed (sCons (sCallF 2 f__law_cell_at (sCons (sVar 0) (sCons (sC (.int 2)) sNil))) (sCons (s2 opAdd (sC (.int 70)) (sVarB 5)) sNil))) (sIx (sLst (sCons (sC (.int 5)) (sCons (sC (.int 5)) (sCons (sC (.int 12)) sNil)))) (s2 opMod (sVarB 5) (sC (.int 3))))))
      [some (.scr ns), a, b, c, d, e, f, g, h, i, l, m, n, o, p, q, r] (.int kk) = .ok (some (.int (1 + u))) := by
  have z3 : 3 ≤ sizeLine := by decide
  simp [lcOne, wipeE, Tg.set, cell_2, mm, j1, j2, qq, z3]
theorem drop_rg {n : Nat} (h : n ≤ 3) : opt (rng1 [D.int (n : Int)]) = .ok (ups 0 n) := by rw [rng1_nat (by omega)]; rfl
theorem drop_it {ns : List Int} {nb nr : Int} {nm : List Str} {cs : List ClT} {sl fl : List Str} {bs : List BtT} {k m : Option D} {n : Nat} (hn : n ≤ 3) :
    sI rng1 (sCons (sVarB 9) sNil) (E3 ns nb nr nm cs k sl fl bs (some (.int (n : Int))) none none none none m none none) = .ok (ups 0 n) := by
  have e : (sCons (sVarB 9) sNil) (E3 ns nb nr nm cs k sl fl bs (some (.int (n : Int))) none none none none m none none) = .ok [D.int (n : Int)] := by simp
  rw [sI_ap, e, bind_ok, drop_rg hn]
theorem drop_md (c : Int) {k : Nat} (hk : k < 3) : ∃ v w u : Int, RN.f__law_mixed [.int c, .int (70 + (k : Int))] = .ok (.int v) [] ∧ (w = if k = 2 then 12 else 5) ∧ opMod (.int v) (.int w) = some (.int u) ∧ dropAt c k = 1 + u := by
  refine ⟨_, _, _, RN.mix_eq (n := c) (k := 70 + (k : Int)) (by omega), rfl, mod_pos' (by split <;> decide), ?_⟩
  unfold dropAt
  rfl
theorem drop_lc {ns : List Int} {nb nr : Int} {nm : List Str} {cs : List ClT} {sl fl : List Str} {bs : List BtT} {k m : Option D} {n : Nat} (hn : n ≤ 3) :
    l__law_meeting_11 (E3 ns nb nr nm cs k sl fl bs (some (.int (n : Int))) none none none none m none none) = .ok (.lst true ((List.range n).map fun k => D.int (dropAt (cellI ns 2) k))) := by
  refine lc_up (by omega) (drop_it hn) fun k hk => ?_
  obtain ⟨j, j1, j2⟩ := ix_drop (k := k) (by omega)
  obtain ⟨v, w, u, h1, h2, h3, h4⟩ := drop_md (cellI ns 2) (k := k) (by omega)
  rw [← h2] at j2
  rw [h4]
  exact drop_one (t := none) h1 j1 j2 h3
theorem told_lc {ns : List Int} {nb nr : Int} {nm : List Str} {cs : List ClT} {sl fl : List Str} {bs : List BtT} {k mn dr m : Option D} (hb : bs.length ≤ 100) :
    l__law_meeting_13 (E3 ns nb nr nm cs k sl fl bs mn dr none none none m none none) = .ok (.lst true ((bs.map fun b => b.2.2).map .str)) := by
  refine sLc_ok (ds := bs.map boatD) (by simp [cleanL_of boatD_clean]) (by rw [List.length_map]; unfold sizeLine; omega) ?_
  rw [List.map_map]
  refine lcRun_of fun b hb => ?_
  have e : opIx (boatD b) (.int 2) = some (.str b.2.2) := rfl
  simp [lcOne, wipeE, Tg.set, e]
end RM

/-! RL, the laws' drawn meetings: races. -/
namespace RM
open PySem RL L2
abbrev RcT := Str × Str × Int × Int
def raceD (r : RcT) : D := .tup [.str r.1, .str r.2.1, .int r.2.2.1, .int r.2.2.2]
theorem raceD_clean (c : RcT) : (raceD c).clean = true := by simp [raceD, D.clean, cleanL]
theorem raceD_frz (c : RcT) : (raceD c).frz = raceD c := by simp [raceD, D.frz, frzL]
abbrev E4 (ns : List Int) (nb nr : Int) (nm : List Str) (cs : List ClT) (k : Option D) (sl fl : List Str) (bs : List BtT) (mn : Int) (dr : List Int) (tl : List Str) (rs : List RcT) (cl : List Str) (m op : Option D) : RL.Env :=
  [some (.scr ns), some (.int nb), some (.int nr), some (.lst false (nm.map .str)), some (.lst true (cs.map clD)), k, some (.lst false (sl.map .str)), some (.lst false (fl.map .str)), some (.lst true (bs.map boatD)), some (.int mn), some (.lst false (dr.map .int)), some (.lst false (tl.map .str)), some (.lst true (rs.map raceD)), some (.lst false (cl.map .str)), m, op, none]
theorem rc_step {ns : List Int} {nb nr : Int} {nm : List Str} {cs : List ClT} {sl fl : List Str} {bs : List BtT} {mn : Int} {dr : List Int} {tl : List Str} {rs : List RcT} {cl : List Str} {m op : Option D} {k : Nat} (hk : k < cl.length) (hr : rs.length ≤ 100) (hk2 : k ≤ 1000) (ht : 0 < tl.length) :
    ∃ (f : Str) (st di : Int) (m' op' : Option D), f ∈ tl ∧ 0 ≤ st ∧ st ≤ 359000 ∧ 0 ≤ di ∧ di ≤ 9999 ∧
      k__law_meeting_21 (E4 ns nb nr nm cs (some (.int (k : Int))) sl fl bs mn dr tl rs cl m op) = .nx (E4 ns nb nr nm cs (some (.int (k : Int))) sl fl bs mn dr tl (rs ++ [(cl.getD k "", f, st, di)]) cl m' op') := by
  have mm := RN.mix_eq (n := cellI ns 3) (k := 80 + (k : Int)) (by omega)
  generalize RN.mixI (cellI ns 3) (80 + (k : Int)) = v at mm
  have z3 : 3 ≤ sizeLine := by decide
  have z4 : 4 ≤ sizeLine := by decide
  have lt : rs.length < sizeLine := by unfold sizeLine; omega
  have ix := ix_str (o := false) hk
  have q1 := mod_pos' (i := v) (j := 40000) (by decide)
  have q2 := mod_pos' (i := v) (j := 359000) (by decide)
  have q3 := mod_pos' (i := v) (j := 3) (by decide)
  have q4 := fdiv_pos' (i := v) (j := 3) (by decide) (by decide)
  have q5 := mod_pos' (i := v / 3) (j := (tl.length : Int)) (by omega)
  have q6 := fdiv_pos' (i := v) (j := 100) (by decide) (by decide)
  have b1 := RN.mod_in v (b := 40000) (by decide)
  have b2 := RN.mod_in v (b := 359000) (by decide)
  have b3 := RN.mod_in v (b := 3) (by decide)
  obtain ⟨f, f1, f2⟩ := ix_one (f := D.str) (o := false) (xs := tl) (i := v / 3) ht
  generalize v % 40000 = x1 at *
  generalize v % 359000 = x2 at *
  generalize v % 3 = x3 at *
  generalize v / 3 = x4 at *
  generalize x4 % (tl.length : Int) = x5 at *
  generalize v / 100 = x6 at *
  obtain ⟨c, c1, c2⟩ := ix_mem (xs := [D.int 0, .int x1, .int x2]) b3.1 b3.2
  obtain ⟨st, rfl, s1, s2⟩ : ∃ z : Int, c = .int z ∧ 0 ≤ z ∧ z ≤ 359000 := by
    simp only [List.mem_cons, List.not_mem_nil, or_false] at c2
    rcases c2 with rfl | rfl | rfl
    · exact ⟨_, rfl, by omega, by omega⟩
    · exact ⟨_, rfl, by omega, by omega⟩
    · exact ⟨_, rfl, by omega, by omega⟩
  obtain ⟨d, d1, d2⟩ := ix_mem (xs := [D.int 1, .int 300, .int 10000]) b3.1 b3.2
  obtain ⟨w, rfl, w1, w2⟩ : ∃ z : Int, d = .int z ∧ 0 < z ∧ z ≤ 10000 := by
    simp only [List.mem_cons, List.not_mem_nil, or_false] at d2
    rcases d2 with rfl | rfl | rfl
    · exact ⟨_, rfl, by omega, by omega⟩
    · exact ⟨_, rfl, by omega, by omega⟩
    · exact ⟨_, rfl, by omega, by omega⟩
  have q7 := mod_pos' (i := x6) (j := w) w1
  have b7 := RN.mod_in x6 (b := w) w1
  generalize x6 % w = di at *
  have e17 : t__law_meeting_17 (E4 ns nb nr nm cs (some (.int (k : Int))) sl fl bs mn dr tl rs cl m op) = .nx (E4 ns nb nr nm cs (some (.int (k : Int))) sl fl bs mn dr tl rs cl (some (.int v)) op) := by
    simp [t__law_meeting_17, cell_3, mm]
  have e18 : t__law_meeting_18 (E4 ns nb nr nm cs (some (.int (k : Int))) sl fl bs mn dr tl rs cl (some (.int v)) op) = .nx (E4 ns nb nr nm cs (some (.int (k : Int))) sl fl bs mn dr tl rs cl (some (.int v)) (some (.int st))) := by
    simp [t__law_meeting_18, q1, q2, q3, c1, z3]
  have e19 : t__law_meeting_19 (E4 ns nb nr nm cs (some (.int (k : Int))) sl fl bs mn dr tl rs cl (some (.int v)) (some (.int st))) = .nx (E4 ns nb nr nm cs (some (.int (k : Int))) sl fl bs mn dr tl (rs ++ [(cl.getD k "", f, st, di)]) cl (some (.int v)) (some (.int st))) := by
    simp [t__law_meeting_19, ix, q3, q4, q5, q6, f2, d1, q7, z3, z4, lt, raceD]
  exact ⟨f, st, di, _, _, f1, s1, s2, b7.1, by omega, by rw [k__law_meeting_21, sThen_ap, e17, andThen_nx, sThen_ap, e18, andThen_nx, e19]⟩
def RcOk (tl : List Str) (r : RcT) : Prop := r.2.1 ∈ tl ∧ 0 ≤ r.2.2.1 ∧ r.2.2.1 ≤ 359000 ∧ 0 ≤ r.2.2.2 ∧ r.2.2.2 ≤ 9999
theorem rc_loop {ns : List Int} {nb nr : Int} {nm : List Str} {cs : List ClT} {k0 : Option D} {sl fl : List Str} {bs : List BtT} {mn : Int} {dr : List Int} {tl cl : List Str} {m0 : Option D} {n : Nat} (hn : n ≤ cl.length) (hn2 : n ≤ 100) (ht : 0 < tl.length) :
    ∃ (rs : List RcT) (k m op : Option D), forRun (.nm 5) k__law_meeting_21 (ups 0 n) (E4 ns nb nr nm cs k0 sl fl bs mn dr tl [] cl m0 none) = .nx (E4 ns nb nr nm cs k sl fl bs mn dr tl rs cl m op) ∧ rs.map (·.1) = cl.take n ∧ ∀ r ∈ rs, RcOk tl r := by
  obtain ⟨ρ', hf, rs, k, m, op, rfl, h1, h2⟩ := for_up (t := 5) (S := k__law_meeting_21) (fun i ρ => ∃ rs k m op, ρ = E4 ns nb nr nm cs k sl fl bs mn dr tl rs cl m op ∧ rs.map (·.1) = cl.take i ∧ ∀ r ∈ rs, RcOk tl r)
    (n := n) (ρ := E4 ns nb nr nm cs k0 sl fl bs mn dr tl [] cl m0 none) ⟨[], k0, m0, none, rfl, by simp, by simp⟩ (by
      rintro i ρ ⟨rs, k, m, op, rfl, _⟩
      simp) (by
      rintro i ρ hi ⟨rs, k, m, op, rfl, h1, h2⟩
      have rl : rs.length = i := by
        have := congrArg List.length h1
        rw [List.length_map, List.length_take] at this
        omega
      obtain ⟨f, st, di, m', op', g1, g2, g3, g4, g5, g6⟩ := rc_step (ns := ns) (nb := nb) (nr := nr) (nm := nm) (cs := cs) (sl := sl) (fl := fl) (bs := bs) (mn := mn) (dr := dr) (tl := tl) (rs := rs) (cl := cl) (m := m) (op := op) (k := i) (by omega) (by omega) (by omega) ht
      refine ⟨_, g6, _, _, _, _, rfl, ?_, ?_⟩
      · rw [List.map_append, h1, List.take_succ]
        rw [List.getElem?_eq_getElem (by omega)]
        simp [List.getD, List.getElem?_eq_getElem (show i < cl.length by omega)]
      · intro r hr
        rcases List.mem_append.mp hr with hr | hr
        · exact h2 r hr
        · rw [List.mem_singleton.mp hr]; exact ⟨g1, g2, g3, g4, g5⟩)
  exact ⟨rs, k, m, op, hf, h1, h2⟩
end RM

/-! RL, the laws' drawn meetings: the whole. -/
namespace RM
open PySem RL L2
/-- a meeting -/
structure Mt where
  cs : List ClT
  bs : List BtT
  ds : List Int
  rs : List RcT
def Mt.D (m : Mt) : D := .tup [.tux (m.cs.map clD), .tup (m.bs.map boatD), .tup (m.ds.map .int), .tup (m.rs.map raceD)]
structure Good (nb nr : Nat) (m : Mt) : Prop where
  cnd : (m.cs.map (·.1)).Nodup
  c0 : 0 < m.cs.length
  c6 : m.cs.length ≤ 6
  cnm : ∀ c ∈ m.cs, RN.Nm c.1
  chc : ∀ c ∈ m.cs, HcOk c.2
  bnd : (m.bs.map (·.1)).Nodup
  b0 : 0 < m.bs.length
  bn : m.bs.length ≤ nb
  bnm : ∀ b ∈ m.bs, RN.Nm b.1
  bcl : ∀ b ∈ m.bs, b.2.1 ∈ m.cs.map (·.1)
  bfl : ∃ fl : List Str, fl.Nodup ∧ fl.length ≤ 3 ∧ (∀ f ∈ fl, RN.Nm f) ∧ ∀ b ∈ m.bs, b.2.2 ∈ fl
  dup : m.ds.Pairwise (· < ·)
  d3 : m.ds.length ≤ 3
  din : ∀ d ∈ m.ds, 1 ≤ d ∧ d ≤ 12
  rnd : (m.rs.map (·.1)).Nodup
  rn : m.rs.length ≤ nr
  rnm : ∀ r ∈ m.rs, RN.Nm r.1
  rok : ∀ r ∈ m.rs, RcOk (m.bs.map (fun b => b.2.2) ++ [("all" : Str)]) r
theorem Good.bfn {nb nr : Nat} {m : Mt} (g : Good nb nr m) {b : BtT} (h : b ∈ m.bs) : RN.Nm b.2.2 := by
  obtain ⟨fl, _, _, h3, h4⟩ := g.bfl
  exact h3 _ (h4 b h)
theorem modN (v : Int) {b : Int} (hb : 0 < b) : ∃ a : Nat, (a : Int) < b ∧ opMod (.int v) (.int b) = some (.int (a : Int)) := by
  obtain ⟨a, ha⟩ := Int.eq_ofNat_of_zero_le (RN.mod_in v hb).1
  exact ⟨a, by have := (RN.mod_in v hb).2; omega, by rw [mod_pos' hb, ha]⟩
theorem rng_add {a : Nat} (h : a ≤ 100) : opt (rng1 [D.int (1 + (a : Int))]) = .ok (ups 0 (a + 1)) := by
  rw [show (1 + (a : Int)) = ((a + 1 : Nat) : Int) by omega, rng1_nat (by omega)]; rfl
theorem rng_nat {a : Nat} (h : a ≤ 100) : opt (rng1 [D.int (a : Int)]) = .ok (ups 0 a) := by
  rw [rng1_nat (by omega)]; rfl
theorem namesK (n : Int) (many : Nat) {k : Int} (hk : k = (many : Int)) (h : many ≤ 34) : ∃ xs : List Str, RN.f__law_names [.int n, .int k] = .ok (.lst true (xs.map .str)) [] ∧ xs.Nodup ∧ xs.length = many ∧ ∀ x ∈ xs, RN.Nm x := by
  subst hk
  exact RN.names_eq h
theorem sortI_len (ns : List Int) : (sortI ns).length ≤ ns.length := by
  have nd : (sortI ns).Nodup := (sortI_up ns).imp fun h => by omega
  exact List.Nodup.length_le_of_subset nd fun k hk => sortI_mem.mp hk
theorem meeting_eq {ns : List Int} {nb nr : Nat} (h0 : 0 < nb) (h1 : nb ≤ 24) (h2 : nr ≤ 12) : ∃ m : Mt, Good nb nr m ∧ f__law_meeting [.scr ns, .int (nb : Int), .int (nr : Int)] = .ok m.D [] := by
  obtain ⟨v1, m1⟩ : ∃ v, RN.f__law_mixed [.int (cellI ns 0), .int 1] = .ok (.int v) [] := ⟨_, RN.mix_eq (by decide)⟩
  obtain ⟨v2, m2⟩ : ∃ v, RN.f__law_mixed [.int (cellI ns 1), .int 2] = .ok (.int v) [] := ⟨_, RN.mix_eq (by decide)⟩
  obtain ⟨v3, m3⟩ : ∃ v, RN.f__law_mixed [.int (cellI ns 2), .int 3] = .ok (.int v) [] := ⟨_, RN.mix_eq (by decide)⟩
  obtain ⟨v4, m4⟩ : ∃ v, RN.f__law_mixed [.int (cellI ns 1), .int 4] = .ok (.int v) [] := ⟨_, RN.mix_eq (by decide)⟩
  obtain ⟨v5, m5⟩ : ∃ v, RN.f__law_mixed [.int (cellI ns 3), .int 5] = .ok (.int v) [] := ⟨_, RN.mix_eq (by decide)⟩
  obtain ⟨v6, m6⟩ : ∃ v, RN.f__law_mixed [.int (cellI ns 3), .int 6] = .ok (.int v) [] := ⟨_, RN.mix_eq (by decide)⟩
  obtain ⟨nm, n1, nm2, nm3, nm4⟩ := namesK v1 6 (k := 6) rfl (by decide)
  obtain ⟨sl, s1, sl2, sl3, sl4⟩ := namesK v2 24 (k := 24) rfl (by decide)
  obtain ⟨fl0, f1, fl2, fl3, fl4⟩ := namesK v3 3 (k := 3) rfl (by decide)
  obtain ⟨cl, l1, cl2, cl3, cl4⟩ := namesK v5 12 (k := 12) rfl (by decide)
  obtain ⟨a0, a0l, q0⟩ := modN (cellI ns 0) (b := 6) (by decide)
  obtain ⟨a2, a2l, q2⟩ := modN (cellI ns 2) (b := 3) (by decide)
  obtain ⟨a4, a4l, q4⟩ := modN v4 (b := (nb : Int)) (by omega)
  obtain ⟨a6, a6l, q6⟩ := modN v6 (b := (nr : Int) + 1) (by omega)
  have qd := fdiv_pos' (i := cellI ns 2) (j := 3) (by decide) (by decide)
  obtain ⟨a3, a3l, q3⟩ := modN (cellI ns 2 / 3) (b := 4) (by decide)
  generalize cellI ns 2 / 3 = d3 at *
  obtain ⟨cs, ck, cf, cc1, cc2⟩ := cl_loop (ns := ns) (nb := nb) (nr := nr) (nm := nm) (n := a0 + 1) (by omega) (by omega)
  have csl : cs.length = a0 + 1 := by
    have := congrArg List.length cc1
    rw [List.length_map, List.length_take] at this
    omega
  have fll : (fl0.take (a2 + 1)).length = a2 + 1 := by rw [List.length_take]; omega
  have fls : opSl (.lst true (fl0.map .str)) none (some (1 + (a2 : Int))) = some (.lst true ((fl0.take (a2 + 1)).map .str)) := by
    rw [show (1 + (a2 : Int)) = ((a2 + 1 : Nat) : Int) by omega, opSl_l (cleanL_strs), cut_0n, List.map_take]
  generalize hfl : fl0.take (a2 + 1) = fl at *
  obtain ⟨bs, bk, bm, bf, bb1, bb2⟩ := bt_loop (ns := ns) (nb := nb) (nr := nr) (nm := nm) (cs := cs) (sl := sl) (fl := fl) (k0 := ck) (n := a4 + 1) (by omega) (by omega) (by omega) (by omega)
  have bsl : bs.length = a4 + 1 := by
    have := congrArg List.length bb1
    rw [List.length_map, List.length_take] at this
    omega
  have dl := drop_lc (ns := ns) (nb := nb) (nr := nr) (nm := nm) (cs := cs) (sl := sl) (fl := fl) (bs := bs) (k := bk) (m := bm) (n := a3) (by omega)
  obtain ⟨dr, hdr⟩ : ∃ dr : List Int, dr = (List.range a3).map (dropAt (cellI ns 2)) := ⟨_, rfl⟩
  have dr2 : ((List.range a3).map fun k => D.int (dropAt (cellI ns 2) k)) = dr.map .int := by rw [hdr, List.map_map]; rfl
  have dr3 : dr.length ≤ 3 := by rw [hdr, List.length_map, List.length_range]; omega
  have dr4 : ∀ d ∈ dr, 1 ≤ d ∧ d ≤ 12 := fun d hd => by
    rw [hdr] at hd
    obtain ⟨k, _, rfl⟩ := List.mem_map.mp hd
    exact dropAt_in _ _
  rw [dr2] at dl
  clear hdr dr2
  have tlc := told_lc (ns := ns) (nb := nb) (nr := nr) (nm := nm) (cs := cs) (sl := sl) (fl := fl) (bs := bs) (k := bk) (m := bm) (mn := some (.int (a3 : Int))) (dr := some (.lst false (dr.map .int))) (by omega)
  obtain ⟨tl, htl⟩ : ∃ tl : List Str, tl = (bs.map fun b => b.2.2) ++ [("all" : Str)] := ⟨_, rfl⟩
  obtain ⟨rs, rk, rm, ro, rf, rr1, rr2⟩ := rc_loop (ns := ns) (nb := nb) (nr := nr) (nm := nm) (cs := cs) (sl := sl) (fl := fl) (bs := bs) (mn := (a3 : Int)) (dr := dr) (tl := tl) (cl := cl) (k0 := bk) (m0 := bm) (n := a6) (by omega) (by omega) (by rw [htl]; simp)
  have tla : opAdd (.lst true ((bs.map fun b => b.2.2).map .str)) (.lst true [.str "all"]) = some (.lst true (tl.map .str)) := by
    rw [opAdd_l cleanL_strs (by simp) (by simp [sizeLine]; omega), htl]
    simp
  refine ⟨⟨cs, bs, sortI dr, rs⟩, ?_, ?_⟩
  · have mem_take : ∀ {xs : List Str} {n : Nat} {x : Str}, x ∈ xs.take n → x ∈ xs := fun h => List.mem_of_mem_take h
    refine ⟨?_, by rw [csl]; omega, by rw [csl]; omega, fun c hc => ?_, cc2, ?_, by rw [bsl]; omega, by rw [bsl]; omega, fun b hb => ?_, fun b hb => (bb2 b hb).1, ⟨fl, ?_, by omega, ?_, fun b hb => (bb2 b hb).2⟩, sortI_up dr, Nat.le_trans (sortI_len dr) dr3, fun d hd => dr4 d (sortI_mem.mp hd), ?_, ?_, fun r hr => ?_, fun r hr => ?_⟩
    · show (cs.map (·.1)).Nodup
      rw [cc1]; exact nm2.sublist (List.take_sublist _ _)
    · exact nm4 _ (mem_take (cc1 ▸ List.mem_map_of_mem hc))
    · show (bs.map (·.1)).Nodup
      rw [bb1]; exact sl2.sublist (List.take_sublist _ _)
    · exact sl4 _ (mem_take (bb1 ▸ List.mem_map_of_mem hb))
    · rw [← hfl]; exact fl2.sublist (List.take_sublist _ _)
    · intro f hf'
      rw [← hfl] at hf'
      exact fl4 _ (mem_take hf')
    · show (rs.map (·.1)).Nodup
      rw [rr1]; exact cl2.sublist (List.take_sublist _ _)
    · have := congrArg List.length rr1
      rw [List.length_map, List.length_take] at this
      show rs.length ≤ nr
      omega
    · exact cl4 _ (mem_take (rr1 ▸ List.mem_map_of_mem hr))
    · rw [← htl]; exact rr2 r hr
  have e0 : t__law_meeting_0 [some (.scr ns), some (.int nb), some (.int nr), none, none, none, none, none, none, none, none, none, none, none, none, none, none] = .nx [some (.scr ns), some (.int nb), some (.int nr), some (.lst false (nm.map .str)), none, none, none, none, none, none, none, none, none, none, none, none, none] := by
    simp [t__law_meeting_0, cell_0, m1, n1]
  have z0 : 0 ≤ sizeLine := by decide
  have e1 : t__law_meeting_1 [some (.scr ns), some (.int nb), some (.int nr), some (.lst false (nm.map .str)), none, none, none, none, none, none, none, none, none, none, none, none, none] = .nx (E1 ns nb nr nm [] none) := by
    simp [t__law_meeting_1, z0]
  have e3 : t__law_meeting_3 (E1 ns nb nr nm [] none) = .nx (E1 ns nb nr nm cs ck) := by
    have e : (sCons (s2 opAdd (sC (.int 1)) (s2 opMod (sCallF 2 f__law_cell_at (sCons (sVar 0) (sCons (sC (.int 0)) sNil))) (sC (.int 6)))) sNil) (E1 ns nb nr nm [] none) = .ok [D.int (1 + (a0 : Int))] := by simp [cell_0, q0]
    rw [t__law_meeting_3, sFor_ap, sI_ap, e, bind_ok, rng_add (by omega), stm_ok]
    exact cf
  have e4 : t__law_meeting_4 (E1 ns nb nr nm cs ck) = .nx [some (.scr ns), some (.int nb), some (.int nr), some (.lst false (nm.map .str)), some (.lst true (cs.map clD)), ck, some (.lst false (sl.map .str)), none, none, none, none, none, none, none, none, none, none] := by
    simp [t__law_meeting_4, cell_1, m2, s1]
  have e5 : t__law_meeting_5 [some (.scr ns), some (.int nb), some (.int nr), some (.lst false (nm.map .str)), some (.lst true (cs.map clD)), ck, some (.lst false (sl.map .str)), none, none, none, none, none, none, none, none, none, none] = .nx [some (.scr ns), some (.int nb), some (.int nr), some (.lst false (nm.map .str)), some (.lst true (cs.map clD)), ck, some (.lst false (sl.map .str)), some (.lst false (fl.map .str)), none, none, none, none, none, none, none, none, none] := by
    simp [t__law_meeting_5, cell_2, m3, f1, q2, fls]
  have e6 : t__law_meeting_6 [some (.scr ns), some (.int nb), some (.int nr), some (.lst false (nm.map .str)), some (.lst true (cs.map clD)), ck, some (.lst false (sl.map .str)), some (.lst false (fl.map .str)), none, none, none, none, none, none, none, none, none] = .nx (E2 ns nb nr nm cs ck sl fl [] none) := by
    simp [t__law_meeting_6, z0]
  have e9 : t__law_meeting_9 (E2 ns nb nr nm cs ck sl fl [] none) = .nx (E2 ns nb nr nm cs bk sl fl bs bm) := by
    have e : (sCons (s2 opAdd (sC (.int 1)) (s2 opMod (sCallF 2 RN.f__law_mixed (sCons (sCallF 2 f__law_cell_at (sCons (sVar 0) (sCons (sC (.int 1)) sNil))) (sCons (sC (.int 4)) sNil))) (sVarB 1))) sNil) (E2 ns nb nr nm cs ck sl fl [] none) = .ok [D.int (1 + (a4 : Int))] := by simp [cell_1, m4, q4]
    rw [t__law_meeting_9, sFor_ap, sI_ap, e, bind_ok, rng_add (by omega), stm_ok]
    exact bf
  have e10 : t__law_meeting_10 (E2 ns nb nr nm cs bk sl fl bs bm) = .nx (E3 ns nb nr nm cs bk sl fl bs (some (.int (a3 : Int))) none none none none bm none none) := by
    simp [t__law_meeting_10, cell_2, qd, q3]
  have e12 : t__law_meeting_12 (E3 ns nb nr nm cs bk sl fl bs (some (.int (a3 : Int))) none none none none bm none none) = .nx (E3 ns nb nr nm cs bk sl fl bs (some (.int (a3 : Int))) (some (.lst false (dr.map .int))) none none none bm none none) := by
    rw [t__law_meeting_12, sAsg_ap, dl]
    simp
  have e14 : t__law_meeting_14 (E3 ns nb nr nm cs bk sl fl bs (some (.int (a3 : Int))) (some (.lst false (dr.map .int))) none none none bm none none) = .nx (E3 ns nb nr nm cs bk sl fl bs (some (.int (a3 : Int))) (some (.lst false (dr.map .int))) (some (.lst false (tl.map .str))) none none bm none none) := by
    have z1 : 1 ≤ sizeLine := by decide
    rw [t__law_meeting_14, sAsg_ap, s2_ap, tlc]
    simp only [bind_ok, sLst_ap, sCons_ap, sC_ap, sNil_ap, List.length_cons, List.length_nil, Nat.zero_add, z1, if_true, tla, opt_some, stm_ok]
    simp
  have e15 : t__law_meeting_15 (E3 ns nb nr nm cs bk sl fl bs (some (.int (a3 : Int))) (some (.lst false (dr.map .int))) (some (.lst false (tl.map .str))) none none bm none none) = .nx (E3 ns nb nr nm cs bk sl fl bs (some (.int (a3 : Int))) (some (.lst false (dr.map .int))) (some (.lst false (tl.map .str))) (some (.lst true [])) none bm none none) := by
    simp [t__law_meeting_15, z0]
  have e16 : t__law_meeting_16 (E3 ns nb nr nm cs bk sl fl bs (some (.int (a3 : Int))) (some (.lst false (dr.map .int))) (some (.lst false (tl.map .str))) (some (.lst true [])) none bm none none) = .nx (E4 ns nb nr nm cs bk sl fl bs a3 dr tl [] cl bm none) := by
    simp [t__law_meeting_16, cell_3, m5, l1]
  have e20 : t__law_meeting_20 (E4 ns nb nr nm cs bk sl fl bs a3 dr tl [] cl bm none) = .nx (E4 ns nb nr nm cs rk sl fl bs a3 dr tl rs cl rm ro) := by
    have e : (sCons (s2 opMod (sCallF 2 RN.f__law_mixed (sCons (sCallF 2 f__law_cell_at (sCons (sVar 0) (sCons (sC (.int 3)) sNil))) (sCons (sC (.int 6)) sNil))) (s2 opAdd (sVarB 2) (sC (.int 1)))) sNil) (E4 ns nb nr nm cs bk sl fl bs a3 dr tl [] cl bm none) = .ok [D.int (a6 : Int)] := by simp [cell_3, m6, q6]
    rw [t__law_meeting_20, sFor_ap, sI_ap, e, bind_ok, rng_nat (by omega), stm_ok]
    exact rf
  have e21 : t__law_meeting_21 (E4 ns nb nr nm cs rk sl fl bs a3 dr tl rs cl rm ro) = .rt (Mt.D ⟨cs, bs, sortI dr, rs⟩) (E4 ns nb nr nm cs rk sl fl bs a3 dr tl rs cl rm ro) := by
    have z4 : 4 ≤ sizeLine := by decide
    have c1 := cleanL_of clD_clean cs
    have c2 := cleanL_of boatD_clean bs
    have c3 := cleanL_of raceD_clean rs
    have ss : fSortSet (.lst false (dr.map .int)) = some (.lst true ((sortI dr).map .int)) := by
      simp only [fSortSet, intsD_map, Option.bind_some]
      simp; omega
    simp [t__law_meeting_21, fTuple, fTux, c1, c2, c3, ss, z4, Mt.D]
  rw [f__law_meeting, runDef_ap]
  unfold b__law_meeting
  rw [sThen_ap, show entry 17 [D.scr ns, .int nb, .int nr] = [some (.scr ns), some (.int nb), some (.int nr), none, none, none, none, none, none, none, none, none, none, none, none, none, none] from rfl, e0, andThen_nx, sThen_ap, e1, andThen_nx, sThen_ap, e3, andThen_nx, sThen_ap, e4, andThen_nx, sThen_ap, e5, andThen_nx, sThen_ap, e6, andThen_nx, sThen_ap, e9, andThen_nx, sThen_ap, e10, andThen_nx, sThen_ap, e12, andThen_nx, sThen_ap, e14, andThen_nx, sThen_ap, e15, andThen_nx, sThen_ap, e16, andThen_nx, sThen_ap, e20, andThen_nx, e21]
  rfl
end RM

namespace RG
open PySem RL
open RH (f_handicap_of f_LevelHandicap_plain f_Handicap_plain)
abbrev cs_crews : List Str := ["Meeting"]
abbrev cs_kinds : List Str := ["Meeting"]
abbrev cs_limits : List Str := ["Meeting"]
abbrev cs_runs : List Str := ["Meeting"]
def t_is_in_0 : RL.Env → SRes := (sRet (sAnd (s1 (fIsTy "str") (sVarB 0)) (s2 oIn (sVarB 0) (sVarB 1))))
def b_is_in : RL.Env → SRes := t_is_in_0
def f_is_in : List D → FR := runDef 2 [] b_is_in
def t_Meeting_boats_0 : RL.Env → SRes := (sRet (sCall (on1 fListX) (sCons (sFld cs_crews "crews" (sVarB 0)) sNil)))
def b_Meeting_boats : RL.Env → SRes := t_Meeting_boats_0
def f_Meeting_boats : List D → FR := runDef 1 [] b_Meeting_boats
def l_Meeting_fleets_0 : RL.Env → Res D := (sLc (sVals (sCl (sFld cs_crews "crews" (sVarB 0)))) (.nm 1) [1] sYes (sTup (sCons (sCl (sIx (sVarB 1) (sC (.int 2)))) (sCons (sC (.bl true)) sNil))))
def t_Meeting_fleets_1 : RL.Env → SRes := (sRet (sCall (on1 fListX) (sCons (s1 fDict l_Meeting_fleets_0) sNil)))
def b_Meeting_fleets : RL.Env → SRes := t_Meeting_fleets_1
def f_Meeting_fleets : List D → FR := runDef 2 [] b_Meeting_fleets
def t_Meeting_races_0 : RL.Env → SRes := (sRet (sCall (on1 fListX) (sCons (sFld cs_runs "runs" (sVarB 0)) sNil)))
def b_Meeting_races : RL.Env → SRes := t_Meeting_races_0
def f_Meeting_races : List D → FR := runDef 1 [] b_Meeting_races
def l_Meeting_drops_0 : RL.Env → Res D := (sLc (sIter (sCl (sFld cs_limits "limits" (sVarB 0)))) (.nm 2) [2] (sTest (s2 opLe (sVarB 2) (sVarB 1))) (sVar 2))
def t_Meeting_drops_1 : RL.Env → SRes := (sRet (sCall (on1 fLenX) (sCons l_Meeting_drops_0 sNil)))
def b_Meeting_drops : RL.Env → SRes := t_Meeting_drops_1
def f_Meeting_drops : List D → FR := runDef 3 [] b_Meeting_drops
def t_Meeting_race_0 : RL.Env → SRes := (sIfS (sNot (sTest (sCallF 2 f_is_in (sCons (sVar 1) (sCons (sCl (sFld cs_runs "runs" (sVarB 0))) sNil))))) (sRaise "NoName") sNext)
def t_Meeting_race_1 : RL.Env → SRes := (sRet (sCl (sIx (sFld cs_runs "runs" (sVarB 0)) (sVarB 1))))
def b_Meeting_race : RL.Env → SRes := (sThen t_Meeting_race_0
    t_Meeting_race_1)
def f_Meeting_race : List D → FR := runDef 2 [] b_Meeting_race
def t_Meeting_boat_0 : RL.Env → SRes := (sIfS (sNot (sTest (sCallF 2 f_is_in (sCons (sVar 1) (sCons (sCl (sFld cs_crews "crews" (sVarB 0))) sNil))))) (sRaise "NoName") sNext)
def t_Meeting_boat_1 : RL.Env → SRes := (sRet (sCl (sIx (sFld cs_crews "crews" (sVarB 0)) (sVarB 1))))
def b_Meeting_boat : RL.Env → SRes := (sThen t_Meeting_boat_0
    t_Meeting_boat_1)
def f_Meeting_boat : List D → FR := runDef 2 [] b_Meeting_boat
abbrev tab_fleets : List (Str × (List D → FR)) := [("Meeting", f_Meeting_fleets)]
def t_Meeting_sails_of_0 : RL.Env → SRes := (sIfS (sNot (sTest (sCallF 2 f_is_in (sCons (sVar 1) (sCons (s2 opAdd (sLst (sCons (sC (.str "all")) sNil)) (sMeth "fleets" tab_fleets 1 (sVar 0) sNil)) sNil))))) (sRaise "NoName") sNext)
def l_Meeting_sails_of_1 : RL.Env → Res D := (sLc (sVals (sCl (sFld cs_crews "crews" (sVarB 0)))) (.tp [(.nm 2), (.nm 3), (.nm 4)]) [2, 3, 4] (sTest (s2 oIn (sVarB 1) (sTup (sCons (sC (.str "all")) (sCons (sVar 4) sNil))))) (sVar 2))
def t_Meeting_sails_of_2 : RL.Env → SRes := (sRet l_Meeting_sails_of_1)
def b_Meeting_sails_of : RL.Env → SRes := (sThen t_Meeting_sails_of_0
    t_Meeting_sails_of_2)
def f_Meeting_sails_of : List D → FR := runDef 5 [] b_Meeting_sails_of
abbrev tab_plain : List (Str × (List D → FR)) := [("LevelHandicap", f_LevelHandicap_plain), ("FactorHandicap", f_Handicap_plain), ("YardHandicap", f_Handicap_plain), ("MileHandicap", f_Handicap_plain)]
def l_Meeting_plain_0 : RL.Env → Res D := (sLc (sItems (sCl (sFld cs_kinds "kinds" (sVarB 0)))) (.tp [(.nm 2), (.nm 3)]) [2, 3] sYes (sTup (sCons (sVar 2) (sCons (sMeth "plain" tab_plain 1 (sVar 3) sNil) sNil))))
def t_Meeting_plain_1 : RL.Env → SRes := (sAsg (.nm 1) true (sCall (on1 fTuple) (sCons l_Meeting_plain_0 sNil)))
def t_Meeting_plain_2 : RL.Env → SRes := (sRet (sTup (sCons (sVar 1) (sCons (s1 fTupV (sFld cs_crews "crews" (sVarB 0))) (sCons (sCl (sFld cs_limits "limits" (sVarB 0))) (sCons (s1 fTupV (sFld cs_runs "runs" (sVarB 0))) sNil))))))
def b_Meeting_plain : RL.Env → SRes := (sThen t_Meeting_plain_1
    t_Meeting_plain_2)
def f_Meeting_plain : List D → FR := runDef 4 [] b_Meeting_plain
abbrev tab_boat : List (Str × (List D → FR)) := [("Meeting", f_Meeting_boat)]
def t_Meeting_fleet_of_0 : RL.Env → SRes := (sRet (sIx (sMeth "boat" tab_boat 2 (sVar 0) (sCons (sVar 1) sNil)) (sC (.int 2))))
def b_Meeting_fleet_of : RL.Env → SRes := t_Meeting_fleet_of_0
def f_Meeting_fleet_of : List D → FR := runDef 2 [] b_Meeting_fleet_of
def t_Meeting_handicap_0 : RL.Env → SRes := (sRet (sCl (sIx (sFld cs_kinds "kinds" (sVarB 0)) (sIx (sMeth "boat" tab_boat 2 (sVar 0) (sCons (sVar 1) sNil)) (sC (.int 1))))))
def b_Meeting_handicap : RL.Env → SRes := t_Meeting_handicap_0
def f_Meeting_handicap : List D → FR := runDef 2 [] b_Meeting_handicap
abbrev tab_sails_of : List (Str × (List D → FR)) := [("Meeting", f_Meeting_sails_of)]
abbrev tab_race : List (Str × (List D → FR)) := [("Meeting", f_Meeting_race)]
def t_Meeting_entered_0 : RL.Env → SRes := (sRet (sMeth "sails_of" tab_sails_of 2 (sVar 0) (sCons (sIx (sMeth "race" tab_race 2 (sVar 0) (sCons (sVar 1) sNil)) (sC (.int 1))) sNil)))
def b_Meeting_entered : RL.Env → SRes := t_Meeting_entered_0
def f_Meeting_entered : List D → FR := runDef 2 [] b_Meeting_entered
def t_Meeting___init___0 : RL.Env → SRes := (sAsg (.tp [(.nm 2), (.nm 3), (.nm 4), (.nm 5)]) true (sVar 1))
def l_Meeting___init___1 : RL.Env → Res D := (sLc (sIter (sTo D.tp1 (sVar 2))) (.tp [(.nm 8), (.nm 9)]) [8, 9] sYes (sTup (sCons (sVar 8) (sCons (sCallF 1 f_handicap_of (sCons (sVar 9) sNil)) sNil))))
def t_Meeting___init___2 : RL.Env → SRes := (sSetF cs_kinds "kinds" true (plVar 0) (s1 fDict l_Meeting___init___1))
def l_Meeting___init___3 : RL.Env → Res D := (sLc (sIter (sVar 3)) (.nm 6) [6] sYes (sTup (sCons (sCl (sIx (sVarB 6) (sC (.int 0)))) (sCons (sVar 6) sNil))))
def t_Meeting___init___4 : RL.Env → SRes := (sSetF cs_crews "crews" true (plVar 0) (s1 fDict l_Meeting___init___3))
def t_Meeting___init___5 : RL.Env → SRes := (sSetF cs_limits "limits" true (plVar 0) (sCall (on1 fTuple) (sCons (sVarB 4) sNil)))
def l_Meeting___init___6 : RL.Env → Res D := (sLc (sIter (sVar 5)) (.nm 7) [7] sYes (sTup (sCons (sCl (sIx (sVarB 7) (sC (.int 0)))) (sCons (sVar 7) sNil))))
def t_Meeting___init___7 : RL.Env → SRes := (sSetF cs_runs "runs" true (plVar 0) (s1 fDict l_Meeting___init___6))
def b_Meeting___init__ : RL.Env → SRes := (sThen t_Meeting___init___0
    (sThen t_Meeting___init___2
    (sThen t_Meeting___init___4
    (sThen t_Meeting___init___5
    t_Meeting___init___7))))
def f_Meeting___init__ : List D → FR := runDef 10 [0] b_Meeting___init__
def t_meeting_of_0 : RL.Env → SRes := (sRet (sMake "Meeting" 2 f_Meeting___init__ (sCons (sVar 0) sNil)))
def b_meeting_of : RL.Env → SRes := t_meeting_of_0
def f_meeting_of : List D → FR := runDef 1 [] b_meeting_of
end RG

/-! RL: what a Meeting is and tells. -/
namespace RG
open PySem RL RM L2
abbrev fs4 : List Str := ["kinds", "crews", "limits", "runs"]
def objO (o : Bool) (m : Mt) : D := .obj o "Meeting" fs4 [dT false (fun c : ClT => c.1) (fun c => c.2.obj false) m.cs, dT false (fun b : BtT => b.1) boatD m.bs, .tup (m.ds.map .int), dT false (fun r : RcT => r.1) raceD m.rs]
abbrev obj (m : Mt) : D := objO false m
theorem hobj_clean (c : ClT) : ((fun c : ClT => c.2.obj false) c).clean = true := by simp
theorem kinds_clean {cs : List ClT} : (dT false (fun c : ClT => c.1) (fun c => c.2.obj false) cs).clean = true := dT_clean fun c _ => hobj_clean c
theorem crews_clean {bs : List BtT} : (dT false (fun b : BtT => b.1) boatD bs).clean = true := dT_clean fun c _ => boatD_clean c
theorem runs_clean {rs : List RcT} : (dT false (fun r : RcT => r.1) raceD rs).clean = true := dT_clean fun c _ => raceD_clean c
@[simp] theorem obj_clean {m : Mt} : (obj m).clean = true := by
  simp [obj, objO, D.clean, kinds_clean, crews_clean, runs_clean]
@[simp] theorem obj_frz {o : Bool} {m : Mt} : (objO o m).frz = obj m := by
  simp [obj, objO, D.frz, dT_frz, boatD_frz, raceD_frz]
section
variable {o : Bool} {m : Mt}
theorem g_kinds : getF cs_kinds "kinds" (objO o m) = some (dT false (fun c : ClT => c.1) (fun c => c.2.obj false) m.cs) := by
  have : ixOf fs4 ("kinds" : Str) = some 0 := by decide +kernel
  simp [getF, objO, this]
theorem g_crews : getF cs_crews "crews" (objO o m) = some (dT false (fun b : BtT => b.1) boatD m.bs) := by
  have : ixOf fs4 ("crews" : Str) = some 1 := by decide +kernel
  simp [getF, objO, this]
theorem g_limits : getF cs_limits "limits" (objO o m) = some (.tup (m.ds.map .int)) := by
  have : ixOf fs4 ("limits" : Str) = some 2 := by decide +kernel
  simp [getF, objO, this]
theorem g_runs : getF cs_runs "runs" (objO o m) = some (dT false (fun r : RcT => r.1) raceD m.rs) := by
  have : ixOf fs4 ("runs" : Str) = some 3 := by decide +kernel
  simp [getF, objO, this]
end
/-! ### made -/
@[simp] theorem mtD_clean {m : Mt} : m.D.clean = true := by
  simp [Mt.D, cleanL_of clD_clean, cleanL_of boatD_clean, cleanL_of raceD_clean]
@[simp] theorem mtD_frz {m : Mt} : m.D.frz = m.D := by
  simp [Mt.D, frzL_of clD_frz, frzL_of boatD_frz, frzL_of raceD_frz]
theorem of_eq {m : Mt} {nb nr : Nat} (g : Good nb nr m) (hb : nb ≤ 100) (hr : nr ≤ 100) : f_meeting_of [m.D] = .ok (objO true m) [] := by
  have s0 : ∀ a : D, setF cs_kinds "kinds" a (.obj true "Meeting" [] []) = some (.obj true "Meeting" ["kinds"] [a]) := fun a => rfl
  have s1 : ∀ a b : D, setF cs_crews "crews" b (.obj true "Meeting" ["kinds"] [a]) = some (.obj true "Meeting" ["kinds", "crews"] [a, b]) := fun a b => rfl
  have s2 : ∀ a b c : D, setF cs_limits "limits" c (.obj true "Meeting" ["kinds", "crews"] [a, b]) = some (.obj true "Meeting" ["kinds", "crews", "limits"] [a, b, c]) := fun a b c => rfl
  have s3 : ∀ a b c d : D, setF cs_runs "runs" d (.obj true "Meeting" ["kinds", "crews", "limits"] [a, b, c]) = some (.obj true "Meeting" ["kinds", "crews", "limits", "runs"] [a, b, c, d]) := fun a b c d => rfl
  have h2 : 2 ≤ sizeLine := by decide
  have l1 : ∀ a : D, l_Meeting___init___1 [some a, some m.D, some (.tux (m.cs.map clD)), some (.tup (m.bs.map boatD)), some (.tup (m.ds.map .int)), some (.tup (m.rs.map raceD)), none, none, none, none] = .ok (.lst true (m.cs.map fun c => .tup [.str c.1, c.2.obj true])) := fun a => by
    refine lc_map (e := clD) (by have := g.c6; omega) (by simp [cleanL_of clD_clean]) fun c hc => ?_
    have h := RH.of_eq c.2
    simp [lcOne, wipeE, clD, h, h2]
  have l3 : ∀ a : D, l_Meeting___init___3 [some a, some m.D, some (.tux (m.cs.map clD)), some (.tup (m.bs.map boatD)), some (.tup (m.ds.map .int)), some (.tup (m.rs.map raceD)), none, none, none, none] = .ok (.lst true (m.bs.map fun b => .tup [.str b.1, boatD b])) := fun a => by
    refine lc_map (e := boatD) (by have := g.bn; omega) (by simp [cleanL_of boatD_clean]) fun c hc => ?_
    simp [lcOne, wipeE, boatD, h2]
  have l6 : ∀ a : D, l_Meeting___init___6 [some a, some m.D, some (.tux (m.cs.map clD)), some (.tup (m.bs.map boatD)), some (.tup (m.ds.map .int)), some (.tup (m.rs.map raceD)), none, none, none, none] = .ok (.lst true (m.rs.map fun b => .tup [.str b.1, raceD b])) := fun a => by
    refine lc_map (e := raceD) (by have := g.rn; omega) (by simp [cleanL_of raceD_clean]) fun c hc => ?_
    simp [lcOne, wipeE, raceD, h2]
  have d1 := dict_T (o := true) (v := fun c : ClT => c.2.obj true) g.cnd
  have d3 := dict_T (o := true) (v := boatD) g.bnd
  have d6 := dict_T (o := true) (v := raceD) g.rnd
  have e0 : t_Meeting___init___0 [some (.obj true "Meeting" [] []), some m.D, none, none, none, none, none, none, none, none] = .nx [some (.obj true "Meeting" [] []), some m.D, some (.tux (m.cs.map clD)), some (.tup (m.bs.map boatD)), some (.tup (m.ds.map .int)), some (.tup (m.rs.map raceD)), none, none, none, none] := by
    simp only [t_Meeting___init___0, sAsg_ap]
    rw [sVar_ap (d := m.D) rfl, if_pos mtD_clean, stm_ok, if_pos trivial, mtD_frz]
    simp [Mt.D]
  have i1 : f_Meeting___init__ [.obj true "Meeting" [] [], m.D] = .ok .non [objO true m] := by
    rw [f_Meeting___init__, runDef_ap]
    unfold b_Meeting___init__
    rw [sThen_ap, show entry 10 [D.obj true "Meeting" [] [], m.D] = [some (.obj true "Meeting" [] []), some m.D, none, none, none, none, none, none, none, none] from rfl, e0, andThen_nx]
    simp [t_Meeting___init___2, t_Meeting___init___4, t_Meeting___init___5, t_Meeting___init___7, l1, l3, l6, d1, d3, d6, s0, s1, s2, s3, dT_frz, boatD_frz, raceD_frz, fTuple]
    rfl
  rw [f_meeting_of, runDef_ap]
  simp [b_meeting_of, t_meeting_of_0, entry, mkRes, i1]
/-! ### asked -/
/-- what is a text among some -/
def isIn (d : D) (xs : List Str) : Bool := match d with
  | .str s => decide (s ∈ xs)
  | _ => false
theorem isTy_str {d : D} (h : (tyName d).isSome = true) : fIsTy "str" d = some (.bl (match d with | .str _ => true | _ => false)) := by
  cases d <;> simp [tyName] at h <;> simp [fIsTy, tyName] <;> decide +kernel
theorem ap_frz {d : D} (h : (tyName d).isSome = true) : (tyName d.frz).isSome = true := by
  cases d <;> simp [tyName] at h <;> simp [D.frz, tyName]
theorem is_in_T {α : Type} {k : α → Str} {v : α → D} {xs : List α} {o : Bool} {d : D} (h : (tyName d).isSome = true) : f_is_in [d, dT o k v xs] = .ok (.bl (isIn d (xs.map k))) [] := by
  rw [f_is_in, runDef_ap]
  have t := isTy_str h
  cases d with
  | str s => simp [b_is_in, t_is_in_0, entry, t, in_T, isIn]
  | _ => first | (simp [b_is_in, t_is_in_0, entry, t, isIn]; done) | simp [tyName] at h
theorem is_in_L {xs : List Str} {o : Bool} {d : D} (h : (tyName d).isSome = true) : f_is_in [d, .lst o (xs.map .str)] = .ok (.bl (isIn d xs)) [] := by
  rw [f_is_in, runDef_ap]
  have t := isTy_str h
  cases d with
  | str s => simp [b_is_in, t_is_in_0, entry, t, in_strs, isIn]
  | _ => first | (simp [b_is_in, t_is_in_0, entry, t, isIn]; done) | simp [tyName] at h
theorem isIn_frz {d : D} {xs : List Str} : isIn d.frz xs = isIn d xs := by cases d <;> simp [isIn, D.frz]
theorem ne_m {f x : Str} : f ∈ fs4 ↔ f = "kinds" ∨ f = "crews" ∨ f = "limits" ∨ f = "runs" := by simp
section
variable {m : Mt} {nb nr : Nat}
theorem boats_eq : f_Meeting_boats [obj m] = .ok (.lst true (m.bs.map fun b => .str b.1)) [] := by
  rw [f_Meeting_boats, runDef_ap]
  simp [b_Meeting_boats, t_Meeting_boats_0, entry, g_crews, list_T]
theorem races_eq : f_Meeting_races [obj m] = .ok (.lst true (m.rs.map fun b => .str b.1)) [] := by
  rw [f_Meeting_races, runDef_ap]
  simp [b_Meeting_races, t_Meeting_races_0, entry, g_runs, list_T]
/-- the fleets, as first told -/
def fleets (m : Mt) : List Str := nub (m.bs.map fun b => b.2.2)
theorem fleets_eq (hb : m.bs.length ≤ 10000) : f_Meeting_fleets [obj m] = .ok (.lst true ((fleets m).map .str)) [] := by
  have h2 : 2 ≤ sizeLine := by decide
  have l0 : l_Meeting_fleets_0 [some (obj m), none] = .ok (.lst true ((m.bs.map fun b => b.2.2).map fun x => .tup [.str x, .bl true])) := by
    rw [List.map_map]
    refine lc_map (e := boatD) hb (by simp [g_crews, crews_clean, vals_T (v := boatD) fun c _ => boatD_clean c]) fun b _ => ?_
    simp [lcOne, wipeE, boatD, h2]
  rw [f_Meeting_fleets, runDef_ap]
  simp only [b_Meeting_fleets, t_Meeting_fleets_1, entry, sRet_ap, sCall_ap, sCons_ap, s1_ap, List.map_cons, List.map_nil, List.length_cons, List.length_nil, List.replicate, List.cons_append, List.nil_append, l0, bind_ok, dict_nub, opt_some, sNil_ap, on1_ap, list_T, stm_ok, endF_rt0]
  rfl
theorem drops_eq {k : Int} (hd : m.ds.length ≤ 10000) : f_Meeting_drops [obj m, .int k] = .ok (.int ((m.ds.filter fun d => decide (d ≤ k)).length : Nat)) [] := by
  have l0 : l_Meeting_drops_0 [some (obj m), some (.int k), none] = .ok (.lst true ((m.ds.filter fun d => decide (d ≤ k)).map .int)) := by
    refine lc_fl (e := D.int) hd (by simp [g_limits]) fun d _ => ?_
    simp [lcOne, wipeE]
    split <;> simp
  rw [f_Meeting_drops, runDef_ap]
  simp [b_Meeting_drops, t_Meeting_drops_1, entry, l0]
abbrev noName : D := .exn "NoName" [] []
theorem race_eq (g : Good nb nr m) {r : RcT} (h : r ∈ m.rs) : f_Meeting_race [obj m, .str r.1] = .ok (raceD r) [] := by
  have i := is_in_T (k := fun r : RcT => r.1) (v := raceD) (xs := m.rs) (o := false) (d := .str r.1) rfl
  have ii : isIn (.str r.1) (m.rs.map fun r => r.1) = true := by simp [isIn]; exact ⟨_, _, _, h⟩
  have x := ix_T (o := false) (v := raceD) h g.rnd
  have x2 := dT_frz_same (o := false) (k := fun r : RcT => r.1) (v := raceD) (xs := m.rs) fun r _ => raceD_frz r
  rw [f_Meeting_race, runDef_ap]
  simp [b_Meeting_race, t_Meeting_race_0, t_Meeting_race_1, entry, g_runs, i, ii, x, x2, raceD_clean, runs_clean]
theorem race_no {d : D} (hd : d.clean = true) (ht : (tyName d).isSome = true) (h : isIn d (m.rs.map fun r => r.1) = false) : f_Meeting_race [obj m, d] = .exc noName [] := by
  have i := is_in_T (k := fun r : RcT => r.1) (v := raceD) (xs := m.rs) (o := false) (d := d.frz) (ap_frz ht)
  rw [isIn_frz, h] at i
  have x2 := dT_frz_same (o := false) (k := fun r : RcT => r.1) (v := raceD) (xs := m.rs) fun r _ => raceD_frz r
  rw [f_Meeting_race, runDef_ap]
  simp [b_Meeting_race, t_Meeting_race_0, t_Meeting_race_1, entry, g_runs, i, x2, runs_clean, hd]
theorem boat_eq (g : Good nb nr m) {b : BtT} (h : b ∈ m.bs) : f_Meeting_boat [obj m, .str b.1] = .ok (boatD b) [] := by
  have i := is_in_T (k := fun r : BtT => r.1) (v := boatD) (xs := m.bs) (o := false) (d := .str b.1) rfl
  have ii : isIn (.str b.1) (m.bs.map fun r => r.1) = true := by simp [isIn]; exact ⟨_, _, h⟩
  have x := ix_T (o := false) (v := boatD) h g.bnd
  have x2 := dT_frz_same (o := false) (k := fun r : BtT => r.1) (v := boatD) (xs := m.bs) fun r _ => boatD_frz r
  rw [f_Meeting_boat, runDef_ap]
  simp [b_Meeting_boat, t_Meeting_boat_0, t_Meeting_boat_1, entry, g_crews, i, ii, x, x2, boatD_clean, crews_clean]
theorem boat_no {d : D} (hd : d.clean = true) (ht : (tyName d).isSome = true) (h : isIn d (m.bs.map fun r => r.1) = false) : f_Meeting_boat [obj m, d] = .exc noName [] := by
  have i := is_in_T (k := fun r : BtT => r.1) (v := boatD) (xs := m.bs) (o := false) (d := d.frz) (ap_frz ht)
  rw [isIn_frz, h] at i
  have x2 := dT_frz_same (o := false) (k := fun r : BtT => r.1) (v := boatD) (xs := m.bs) fun r _ => boatD_frz r
  rw [f_Meeting_boat, runDef_ap]
  simp [b_Meeting_boat, t_Meeting_boat_0, t_Meeting_boat_1, entry, g_crews, i, x2, crews_clean, hd]
theorem boat_m : ("boat" : Str) ∉ fs4 := by decide +kernel
theorem race_m : ("race" : Str) ∉ fs4 := by decide +kernel
theorem fleets_m : ("fleets" : Str) ∉ fs4 := by decide +kernel
theorem sails_of_m : ("sails_of" : Str) ∉ fs4 := by decide +kernel
/-- a method of a Meeting -/
theorem meth1 {x : Str} {φ : List D → FR} {n : Nat} {o : Bool} {So : RL.Env → Res D} {Ss : RL.Env → Res (List D)} {ρ : RL.Env} {ds : List D} (hx : x ∉ fs4) (ho : So ρ = .ok (objO o m)) (ha : Ss ρ = .ok ds) (hn : ds.length + 1 = n) : sMeth x [("Meeting", φ)] n So Ss ρ = (φ (obj m :: frzL ds)).res := by
  have t : tabGo [(("Meeting" : Str), φ)] "Meeting" = some φ := by simp [tabGo]
  have e : (objO o m).frz = obj m := obj_frz
  rw [sMeth_ap, ho, bind_ok]
  simp only [objO] at e
  simp only [objO, hx, not_false_eq_true, if_true, t, ha, bind_ok, hn, frzL_cons, e]
theorem meth1x {x : Str} {φ : List D → FR} {n : Nat} {o : Bool} {So : RL.Env → Res D} {Ss : RL.Env → Res (List D)} {ρ : RL.Env} {z : D} (hx : x ∉ fs4) (ho : So ρ = .ok (objO o m)) (ha : Ss ρ = .exc z) : sMeth x [("Meeting", φ)] n So Ss ρ = .exc z := by
  have t : tabGo [(("Meeting" : Str), φ)] "Meeting" = some φ := by simp [tabGo]
  rw [sMeth_ap, ho, bind_ok]
  simp only [objO, hx, not_false_eq_true, if_true, t, ha, bind_exc]
theorem fleet_of_eq (g : Good nb nr m) {b : BtT} (h : b ∈ m.bs) : f_Meeting_fleet_of [obj m, .str b.1] = .ok (.str b.2.2) [] := by
  have e : sMeth "boat" tab_boat 2 (sVar 0) (sCons (sVar 1) sNil) [some (obj m), some (.str b.1)] = .ok (boatD b) := by
    refine (meth1 (o := false) (m := m) (ds := [.str b.1]) boat_m (by simp) (by simp) rfl).trans ?_
    simp [boat_eq g h]
  have ix : opIx (boatD b) (.int 2) = some (.str b.2.2) := rfl
  rw [f_Meeting_fleet_of, runDef_ap]
  simp [b_Meeting_fleet_of, t_Meeting_fleet_of_0, entry, e, ix, -sMeth_ap]
theorem fleet_of_no {d : D} (hd : d.clean = true) (ht : (tyName d).isSome = true) (h : isIn d (m.bs.map fun r => r.1) = false) : f_Meeting_fleet_of [obj m, d] = .exc noName [] := by
  have e : sMeth "boat" tab_boat 2 (sVar 0) (sCons (sVar 1) sNil) [some (obj m), some d] = .exc noName := by
    refine (meth1 (o := false) (m := m) (ds := [d]) boat_m (by simp) (by simp [hd]) rfl).trans ?_
    simp [boat_no (frz_clean d) (ap_frz ht) (by rw [isIn_frz]; exact h)]
  rw [f_Meeting_fleet_of, runDef_ap]
  simp [b_Meeting_fleet_of, t_Meeting_fleet_of_0, entry, e, -sMeth_ap]
/-- the handicap of a class -/
theorem handicap_eq (g : Good nb nr m) {b : BtT} {c : ClT} (h : b ∈ m.bs) (hc : c ∈ m.cs) (hb : b.2.1 = c.1) : f_Meeting_handicap [obj m, .str b.1] = .ok (c.2.obj false) [] := by
  have e : sMeth "boat" tab_boat 2 (sVar 0) (sCons (sVar 1) sNil) [some (obj m), some (.str b.1)] = .ok (boatD b) := by
    refine (meth1 (o := false) (m := m) (ds := [.str b.1]) boat_m (by simp) (by simp) rfl).trans ?_
    simp [boat_eq g h]
  have ix : opIx (boatD b) (.int 1) = some (.str c.1) := by rw [← hb]; rfl
  have x := ix_T (o := false) (v := fun c : ClT => c.2.obj false) hc g.cnd
  rw [f_Meeting_handicap, runDef_ap]
  simp [b_Meeting_handicap, t_Meeting_handicap_0, entry, e, ix, g_kinds, x, -sMeth_ap]
theorem handicap_no {d : D} (hd : d.clean = true) (ht : (tyName d).isSome = true) (h : isIn d (m.bs.map fun r => r.1) = false) : f_Meeting_handicap [obj m, d] = .exc noName [] := by
  have e : sMeth "boat" tab_boat 2 (sVar 0) (sCons (sVar 1) sNil) [some (obj m), some d] = .exc noName := by
    refine (meth1 (o := false) (m := m) (ds := [d]) boat_m (by simp) (by simp [hd]) rfl).trans ?_
    simp [boat_no (frz_clean d) (ap_frz ht) (by rw [isIn_frz]; exact h)]
  rw [f_Meeting_handicap, runDef_ap]
  simp [b_Meeting_handicap, t_Meeting_handicap_0, entry, e, g_kinds, -sMeth_ap]
abbrev wAll : Str := "all"
/-- a fleet's boats -/
def sailsOf (m : Mt) (f : Str) : List BtT := m.bs.filter fun b => decide (f = wAll) || decide (f = b.2.2)
theorem sails_of_eq (hb : m.bs.length ≤ 10000) {f : Str} (h : f = wAll ∨ f ∈ fleets m) : f_Meeting_sails_of [obj m, .str f] = .ok (.lst true ((sailsOf m f).map fun b => .str b.1)) [] := by
  have h2 : 2 ≤ sizeLine := by decide
  have h1 : 1 ≤ sizeLine := by decide
  have e : sMeth "fleets" tab_fleets 1 (sVar 0) sNil [some (obj m), some (.str f), none, none, none] = .ok (.lst true ((fleets m).map .str)) := by
    refine (meth1 (o := false) (m := m) (ds := []) fleets_m (by simp) (by simp) rfl).trans ?_
    simp [fleets_eq hb]
  have fl : (fleets m).length ≤ 10000 := Nat.le_trans nubA_len (by simpa using hb)
  have ap : opAdd (.lst true [.str wAll]) (.lst true ((fleets m).map .str)) = some (.lst true ((wAll :: fleets m).map .str)) := by
    rw [opAdd_l (by simp) cleanL_strs (by simp [sizeLine]; omega)]
    rfl
  have i := is_in_L (xs := wAll :: fleets m) (o := false) (d := .str f) rfl
  have ii : isIn (.str f) (wAll :: fleets m) = true := by simpa [isIn] using h
  rw [ii] at i
  have l1 : l_Meeting_sails_of_1 [some (obj m), some (.str f), none, none, none] = .ok (.lst true ((sailsOf m f).map fun b => .str b.1)) := by
    refine lc_fl (e := boatD) hb (by simp [g_crews, crews_clean, vals_T (v := boatD) fun c _ => boatD_clean c]) fun b _ => ?_
    simp only [lcOne, wipeE, boatD, List.set, tg_tp]
    simp [h2, in_two]
    split <;> simp
  rw [f_Meeting_sails_of, runDef_ap, show entry 5 [obj m, .str f] = [some (obj m), some (.str f), none, none, none] from rfl]
  simp [b_Meeting_sails_of, t_Meeting_sails_of_0, t_Meeting_sails_of_2, e, ap, i, h1, l1, -sMeth_ap, -List.map_cons]
theorem sails_of_no (hb : m.bs.length ≤ 10000) {d : D} (hd : d.clean = true) (ht : (tyName d).isSome = true) (h : isIn d (wAll :: fleets m) = false) : f_Meeting_sails_of [obj m, d] = .exc noName [] := by
  have h1 : 1 ≤ sizeLine := by decide
  have e : sMeth "fleets" tab_fleets 1 (sVar 0) sNil [some (obj m), some d, none, none, none] = .ok (.lst true ((fleets m).map .str)) := by
    refine (meth1 (o := false) (m := m) (ds := []) fleets_m (by simp) (by simp) rfl).trans ?_
    simp [fleets_eq hb]
  have fl : (fleets m).length ≤ 10000 := Nat.le_trans nubA_len (by simpa using hb)
  have ap : opAdd (.lst true [.str wAll]) (.lst true ((fleets m).map .str)) = some (.lst true ((wAll :: fleets m).map .str)) := by
    rw [opAdd_l (by simp) cleanL_strs (by simp [sizeLine]; omega)]
    rfl
  have i := is_in_L (xs := wAll :: fleets m) (o := false) (d := d.frz) (ap_frz ht)
  rw [isIn_frz, h] at i
  rw [f_Meeting_sails_of, runDef_ap, show entry 5 [obj m, d] = [some (obj m), some d, none, none, none] from rfl]
  simp [b_Meeting_sails_of, t_Meeting_sails_of_0, t_Meeting_sails_of_2, e, ap, i, h1, hd, -sMeth_ap, -List.map_cons]
theorem fleet_told (g : Good nb nr m) {r : RcT} (h : r ∈ m.rs) : r.2.1 = wAll ∨ r.2.1 ∈ fleets m := by
  have := (g.rok r h).1
  rcases List.mem_append.mp this with z | z
  · exact .inr (nubA_mem.mpr (.inr z))
  · exact .inl (List.mem_singleton.mp z)
theorem entered_eq (g : Good nb nr m) (hb : nb ≤ 10000) {r : RcT} (h : r ∈ m.rs) : f_Meeting_entered [obj m, .str r.1] = .ok (.lst true ((sailsOf m r.2.1).map fun b => .str b.1)) [] := by
  have e : sMeth "race" tab_race 2 (sVar 0) (sCons (sVar 1) sNil) [some (obj m), some (.str r.1)] = .ok (raceD r) := by
    refine (meth1 (o := false) (m := m) (ds := [.str r.1]) race_m (by simp) (by simp) rfl).trans ?_
    simp [race_eq g h]
  have ix : opIx (raceD r) (.int 1) = some (.str r.2.1) := rfl
  have hb : m.bs.length ≤ 10000 := Nat.le_trans g.bn hb
  have e2 : sMeth "sails_of" tab_sails_of 2 (sVar 0) (sCons (sIx (sMeth "race" tab_race 2 (sVar 0) (sCons (sVar 1) sNil)) (sC (.int 1))) sNil) [some (obj m), some (.str r.1)] = .ok (.lst true ((sailsOf m r.2.1).map fun b => .str b.1)) := by
    refine (meth1 (o := false) (m := m) (ds := [.str r.2.1]) sails_of_m (by simp) (by simp [e, ix, -sMeth_ap]) rfl).trans ?_
    simp [sails_of_eq hb (fleet_told g h)]
  rw [f_Meeting_entered, runDef_ap]
  simp [b_Meeting_entered, t_Meeting_entered_0, entry, e2, -sMeth_ap]
theorem entered_no {d : D} (hd : d.clean = true) (ht : (tyName d).isSome = true) (h : isIn d (m.rs.map fun r => r.1) = false) : f_Meeting_entered [obj m, d] = .exc noName [] := by
  have e : sMeth "race" tab_race 2 (sVar 0) (sCons (sVar 1) sNil) [some (obj m), some d] = .exc noName := by
    refine (meth1 (o := false) (m := m) (ds := [d]) race_m (by simp) (by simp [hd]) rfl).trans ?_
    simp [race_no (frz_clean d) (ap_frz ht) (by rw [isIn_frz]; exact h)]
  have e2 : sMeth "sails_of" tab_sails_of 2 (sVar 0) (sCons (sIx (sMeth "race" tab_race 2 (sVar 0) (sCons (sVar 1) sNil)) (sC (.int 1))) sNil) [some (obj m), some d] = .exc noName := by
    exact meth1x (o := false) (m := m) sails_of_m (by simp) (by simp [e, -sMeth_ap])
  rw [f_Meeting_entered, runDef_ap]
  simp [b_Meeting_entered, t_Meeting_entered_0, entry, e2, -sMeth_ap]
end
end RG

/-! RL: what can be shown by repr. -/
namespace RL
open PySem PySem.Spec PyProof.Rows L2
theorem costL_le {c : Nat} : ∀ {ds : List D}, (∀ d ∈ ds, costD d ≤ c) → costL ds ≤ ds.length * (c + 2)
  | [], _ => by simp [costL]
  | d :: ds, h => by
    have h1 := h d List.mem_cons_self
    have h2 := costL_le fun e he => h e (List.mem_cons_of_mem d he)
    rw [costL, List.length_cons, Nat.add_mul]
    omega
/-- shown at a depth, at a cost -/
def Sh (n c : Nat) (d : D) : Prop := repN n d = true ∧ costD d ≤ c
theorem Sh.le {n c c' : Nat} {d : D} (h : Sh n c d) (l : c ≤ c') : Sh n c' d := ⟨h.1, Nat.le_trans h.2 l⟩
theorem sh_int {n : Nat} {i : Int} (h : 0 ≤ i) (h2 : i ≤ 1000000) : Sh n 1910 (.int i) := by
  have b : Bd 20 i := by unfold Bd; omega
  have s := b.sml (by decide)
  refine ⟨?_, by simp [costD]⟩
  cases n <;> simp [repN, s]
theorem sh_bl {n : Nat} {i : Bool} : Sh n 5 (.bl i) := by
  refine ⟨?_, by simp [costD]⟩
  cases n <;> simp [repN]
theorem sh_str {n c : Nat} {x : Str} (h : PyData.strOk x = true) (l : x.length ≤ c) : Sh n (10 * c + 2) (.str x) := by
  refine ⟨?_, by simp only [costD]; omega⟩
  cases n <;> simp [repN, h]
theorem sh_tup {n c k : Nat} {ds : List D} (h : ∀ d ∈ ds, Sh n c d) (l : ds.length ≤ k) : Sh (n + 1) (k * (c + 2) + 4) (.tup ds) := by
  refine ⟨?_, ?_⟩
  · simp only [repN, List.all_eq_true]
    exact fun d hd => (h d hd).1
  · have := costL_le fun d hd => (h d hd).2
    have := Nat.mul_le_mul_right (c + 2) l
    simp only [costD]
    omega
theorem sh_lst {n c k : Nat} {o : Bool} {ds : List D} (h : ∀ d ∈ ds, Sh n c d) (l : ds.length ≤ k) : Sh (n + 1) (k * (c + 2) + 4) (.lst o ds) := by
  refine ⟨?_, ?_⟩
  · simp only [repN, List.all_eq_true]
    exact fun d hd => (h d hd).1
  · have := costL_le fun d hd => (h d hd).2
    have := Nat.mul_le_mul_right (c + 2) l
    simp only [costD]
    omega
theorem Sh.rep {c : Nat} {d : D} (h : Sh 50 c d) (l : c ≤ 10000000) : fRepr [d] = some (.str d.py.shown) := by
  refine fRepr_ok ?_
  unfold repOk
  rw [h.1, Bool.true_and]
  exact decide_eq_true (by have := h.2; unfold sizeLine; omega)
/-- texts of six signs at the most -/
structure Nx (x : Str) : Prop where
  ok : PyData.strOk x = true
  hi : x.length ≤ 6
theorem nx_of {x : Str} (h : RN.Nm x) : Nx x := by
  refine ⟨?_, h.hi⟩
  unfold PyData.strOk
  rw [Array.all_eq_true']
  intro c hc
  have hm : c ∈ RN.signs := h.sg c (Array.mem_toList_iff.mpr hc)
  have : ∀ c ∈ RN.signs, decide (c < 0x110000) = true := by decide
  exact this c hm
theorem nx_all : Nx "all" := ⟨by decide +kernel, by decide +kernel⟩
theorem Nx.sh {n : Nat} {x : Str} (h : Nx x) : Sh n 62 (.str x) := sh_str h.ok h.hi
theorem sh_strs {n k : Nat} {o : Bool} {xs : List Str} (h : ∀ x ∈ xs, Nx x) (l : xs.length ≤ k) : Sh (n + 1) (k * 64 + 4) (.lst o (xs.map .str)) :=
  sh_lst (c := 62) (fun d hd => by obtain ⟨x, hx, rfl⟩ := List.mem_map.mp hd; exact (h x hx).sh) (by rw [List.length_map]; exact l)
end RL

/-! RL: a Meeting's tuple. -/
namespace RG
open PySem RL RM L2
/-- the tuple, as one of tuples -/
def tD (m : Mt) : D := .tup [.tup (m.cs.map clD), .tup (m.bs.map boatD), .tup (m.ds.map .int), .tup (m.rs.map raceD)]
theorem tpL_same {α : Type} {f : α → D} (h : ∀ a, (f a).tp = f a) : ∀ xs : List α, tpL (xs.map f) = xs.map f
  | [] => rfl
  | x :: xs => by simp only [List.map_cons, tpL, h x, tpL_same h xs]
theorem tp_eq {m : Mt} : m.D.tp = tD m := by
  have h1 : ∀ c : ClT, (clD c).tp = clD c := by
    rintro ⟨n, h⟩
    cases h <;> simp [clD, RH.Hc.plain, D.tp, tpL]
  have h2 : ∀ c : BtT, (boatD c).tp = boatD c := by intro c; simp [boatD, D.tp, tpL]
  have h3 : ∀ c : RcT, (raceD c).tp = raceD c := by intro c; simp [raceD, D.tp, tpL]
  have h4 : ∀ i : Int, (D.int i).tp = .int i := by intro i; simp [D.tp]
  simp only [Mt.D, D.tp, tpL, tpL_same h1, tpL_same h2, tpL_same h3, tpL_same h4, tD]
theorem plain_eq {m : Mt} (hc : m.cs.length ≤ 10000) : f_Meeting_plain [obj m] = .ok (tD m) [] := by
  have h2 : 2 ≤ sizeLine := by decide
  have h4 : 4 ≤ sizeLine := by decide
  have l0 : l_Meeting_plain_0 [some (obj m), none, none, none] = .ok (.lst true (m.cs.map clD)) := by
    refine lc_map (e := fun c : ClT => .tup [.str c.1, c.2.obj false]) hc (by
      simp [g_kinds, kinds_clean, items_T (v := fun c : ClT => c.2.obj false) fun c _ => hobj_clean c]) fun c _ => ?_
    have e : sMeth "plain" tab_plain 1 (sVar 3) sNil [some (obj m), none, some (.str c.1), some (c.2.obj false)] = .ok c.2.plain := by
      refine (RH.meth4 (h := c.2) (o := false) (ds := []) RH.ne_pb (by simp) (by simp) rfl).trans ?_
      have := RH.plain_eq c.2
      simp only [frzL_nil]
      rw [this]
      rfl
    simp only [lcOne, wipeE, List.set, tg_tp, tgL_cons]
    simp [e, h2, clD, -sMeth_ap]
  have c1 := cleanL_of clD_clean m.cs
  have c2 := cleanL_of boatD_clean m.bs
  have c3 := cleanL_of raceD_clean m.rs
  have v1 := tupV_T (o := false) (k := fun b : BtT => b.1) (v := boatD) (xs := m.bs) fun b _ => boatD_clean b
  have v2 := tupV_T (o := false) (k := fun b : RcT => b.1) (v := raceD) (xs := m.rs) fun b _ => raceD_clean b
  have f1 := frzL_of clD_frz m.cs
  rw [f_Meeting_plain, runDef_ap, show entry 4 [obj m] = [some (obj m), none, none, none] from rfl]
  simp [b_Meeting_plain, t_Meeting_plain_1, t_Meeting_plain_2, l0, g_crews, g_runs, g_limits, fTuple, c1, c2, c3, v1, v2, h4, f1, tD]
section
variable {m : Mt} {nb nr : Nat}
theorem sh_cl (g : Good nb nr m) {c : ClT} (h : c ∈ m.cs) {n : Nat} : Sh (n + 2) 8000 (clD c) := by
  have h1 := (nx_of (g.cnm c h)).sh (n := n + 1)
  have h2 : Sh (n + 1) 3900 c.2.plain := by
    have hw : ∀ w : Str, w = RH.wL ∨ w = RH.wF ∨ w = RH.wY ∨ w = RH.wM → Nx w := by
      rintro w (rfl | rfl | rfl | rfl) <;> exact ⟨by decide +kernel, by decide +kernel⟩
    have hc := g.chc c h
    cases q : c.2 with
    | level =>
      refine (sh_tup (c := 1910) (k := 1) (fun d hd => ?_) (by simp)).le (by omega)
      rw [List.mem_singleton.mp hd]
      exact (hw _ (.inl rfl)).sh.le (by omega)
    | factor i =>
      rw [q] at hc
      have hi : 1 ≤ i ∧ i ≤ 5000 := by simpa [HcOk, RH.Hc.num] using hc
      refine (sh_tup (c := 1910) (k := 2) (fun d hd => ?_) (by simp)).le (by omega)
      rcases List.mem_cons.mp hd with rfl | hd
      · exact (hw _ (.inr (.inl rfl))).sh.le (by omega)
      · rw [List.mem_singleton.mp hd]; exact sh_int (by omega) (by omega)
    | yard i =>
      rw [q] at hc
      have hi : 1 ≤ i ∧ i ≤ 5000 := by simpa [HcOk, RH.Hc.num] using hc
      refine (sh_tup (c := 1910) (k := 2) (fun d hd => ?_) (by simp)).le (by omega)
      rcases List.mem_cons.mp hd with rfl | hd
      · exact (hw _ (.inr (.inr (.inl rfl)))).sh.le (by omega)
      · rw [List.mem_singleton.mp hd]; exact sh_int (by omega) (by omega)
    | mile i =>
      rw [q] at hc
      have hi : 1 ≤ i ∧ i ≤ 5000 := by simpa [HcOk, RH.Hc.num] using hc
      refine (sh_tup (c := 1910) (k := 2) (fun d hd => ?_) (by simp)).le (by omega)
      rcases List.mem_cons.mp hd with rfl | hd
      · exact (hw _ (.inr (.inr (.inr rfl)))).sh.le (by omega)
      · rw [List.mem_singleton.mp hd]; exact sh_int (by omega) (by omega)
  refine (sh_tup (c := 3900) (k := 2) (fun d hd => ?_) (by simp)).le (by omega)
  rcases List.mem_cons.mp hd with rfl | hd
  · exact h1.le (by omega)
  · rw [List.mem_singleton.mp hd]; exact h2
theorem sh_boat (g : Good nb nr m) {b : BtT} (h : b ∈ m.bs) {n : Nat} : Sh (n + 1) 8000 (boatD b) := by
  have hc : RN.Nm b.2.1 := by
    obtain ⟨c, h1, h2⟩ := List.mem_map.mp (g.bcl b h)
    rw [← h2]; exact g.cnm c h1
  refine (sh_tup (c := 62) (k := 3) (fun d hd => ?_) (by simp)).le (by omega)
  simp only [List.mem_cons, List.not_mem_nil, or_false] at hd
  rcases hd with rfl | rfl | rfl
  · exact (nx_of (g.bnm b h)).sh
  · exact (nx_of hc).sh
  · exact (nx_of (g.bfn h)).sh
theorem nx_fleet (g : Good nb nr m) {r : RcT} (h : r ∈ m.rs) : Nx r.2.1 := by
  rcases List.mem_append.mp (g.rok r h).1 with z | z
  · obtain ⟨b, h1, h2⟩ := List.mem_map.mp z
    rw [← h2]; exact nx_of (g.bfn h1)
  · rw [List.mem_singleton.mp z]; exact nx_all
theorem sh_race (g : Good nb nr m) {r : RcT} (h : r ∈ m.rs) {n : Nat} : Sh (n + 1) 8000 (raceD r) := by
  have ok := g.rok r h
  refine (sh_tup (c := 1910) (k := 4) (fun d hd => ?_) (by simp)).le (by omega)
  simp only [List.mem_cons, List.not_mem_nil, or_false] at hd
  rcases hd with rfl | rfl | rfl | rfl
  · exact (nx_of (g.rnm r h)).sh.le (by omega)
  · exact (nx_fleet g h).sh.le (by omega)
  · exact sh_int ok.2.1 (by have := ok.2.2.1; omega)
  · exact sh_int ok.2.2.2.1 (by have := ok.2.2.2.2; omega)
theorem sh_tD (g : Good nb nr m) (hb : nb ≤ 100) (hr : nr ≤ 100) : Sh 50 4000000 (tD m) := by
  refine (sh_tup (n := 49) (c := 900000) (k := 4) (fun d hd => ?_) (by simp)).le (by omega)
  simp only [List.mem_cons, List.not_mem_nil, or_false] at hd
  have := g.c6
  have := g.bn
  have := g.rn
  have := g.d3
  rcases hd with rfl | rfl | rfl | rfl
  · refine (sh_tup (n := 48) (c := 8000) (k := 100) (fun d hd => ?_) (by rw [List.length_map]; omega)).le (by omega)
    obtain ⟨c, hc, rfl⟩ := List.mem_map.mp hd
    exact sh_cl g hc
  · refine (sh_tup (n := 48) (c := 8000) (k := 100) (fun d hd => ?_) (by rw [List.length_map]; omega)).le (by omega)
    obtain ⟨c, hc, rfl⟩ := List.mem_map.mp hd
    exact sh_boat g hc
  · refine (sh_tup (n := 48) (c := 8000) (k := 100) (fun d hd => ?_) (by rw [List.length_map]; omega)).le (by omega)
    obtain ⟨c, hc, rfl⟩ := List.mem_map.mp hd
    have := g.din c hc
    exact (sh_int (by omega) (by omega)).le (by omega)
  · refine (sh_tup (n := 48) (c := 8000) (k := 100) (fun d hd => ?_) (by rw [List.length_map]; omega)).le (by omega)
    obtain ⟨c, hc, rfl⟩ := List.mem_map.mp hd
    exact sh_race g hc
end
end RG

namespace RQ
open PySem RL
open RN (f__law_mixed)
def l__law_entered_0 : RL.Env → Res D := (sLc (sIter (sCl (sIx (sVarB 0) (sC (.int 1))))) (.nm 2) [2] (sTest (s2 oIn (sIx (sVarB 1) (sC (.int 1))) (sTup (sCons (sC (.str "all")) (sCons (sCl (sIx (sVarB 2) (sC (.int 2)))) sNil))))) (sCl (sIx (sVarB 2) (sC (.int 0)))))
def b__law_entered : RL.Env → SRes := (sRet l__law_entered_0)
def f__law_entered : List D → FR := runDef 3 [] b__law_entered
def t__law_paper_0 : RL.Env → SRes := (sAsg (.nm 3) true (sCl (sIx (sVarB 1) (sC (.int 3)))))
def t__law_paper_1 : RL.Env → SRes := (sAsg (.nm 4) true (s2 opMod (sCallF 2 f__law_mixed (sCons (sVar 0) (sCons (sC (.int 100)) sNil))) (sC (.int 16))))
def t__law_paper_2 : RL.Env → SRes := (sRet (sTup (sCons (sVar 2) (sCons (sC (.str "void")) (sCons (s2 opAdd (sC (.int 1)) (s2 opMod (sCallF 2 f__law_mixed (sCons (sVar 0) (sCons (sC (.int 101)) sNil))) (sCall (on2 fMax2) (sCons (sC (.int 1)) (sCons (s2 opSub (sVarB 2) (sC (.int 1))) sNil))))) sNil)))))
def t__law_paper_3 : RL.Env → SRes := (sIfS (sOrT (sTest (s2 opEq (sVarB 4) (sC (.int 0)))) (sTest (s2 opEq (sVarB 3) (sTup sNil)))) t__law_paper_2 sNext)
def t__law_paper_4 : RL.Env → SRes := (sAsg (.nm 5) true (sCl (sIx (sVarB 3) (s2 opMod (sCallF 2 f__law_mixed (sCons (sVar 0) (sCons (sC (.int 102)) sNil))) (sCall (on1 fLenX) (sCons (sVarB 3) sNil))))))
def t__law_paper_5 : RL.Env → SRes := (sRet (sTup (sCons (sVar 2) (sCons (sC (.str "off")) (sCons (sCl (sIx (sVarB 5) (sC (.int 0)))) sNil)))))
def t__law_paper_6 : RL.Env → SRes := (sIfS (sAndT (sTest (s2 opEq (sVarB 4) (sC (.int 1)))) (sTest (s2 opEq (s2 opMod (sCallF 2 f__law_mixed (sCons (sVar 0) (sCons (sC (.int 103)) sNil))) (sC (.int 3))) (sC (.int 0))))) t__law_paper_5 sNext)
def t__law_paper_7 : RL.Env → SRes := (sAsg (.nm 6) true (sCallF 2 f__law_entered (sCons (sVar 1) (sCons (sVar 5) sNil))))
def t__law_paper_8 : RL.Env → SRes := (sAsg (.nm 7) true (sCl (sIx (sVarB 6) (s2 opMod (sCallF 2 f__law_mixed (sCons (sVar 0) (sCons (sC (.int 104)) sNil))) (sCall (on1 fLenX) (sCons (sVarB 6) sNil))))))
def t__law_paper_9 : RL.Env → SRes := (sRet (sTup (sCons (sVar 2) (sCons (sC (.str "cost")) (sCons (sCl (sIx (sVarB 5) (sC (.int 0)))) (sCons (sVar 7) (sCons (s2 opAdd (sC (.int 1)) (s2 opMod (sCallF 2 f__law_mixed (sCons (sVar 0) (sCons (sC (.int 105)) sNil))) (sC (.int 20)))) sNil)))))))
def t__law_paper_10 : RL.Env → SRes := (sIfS (sTest (s2 opEq (sVarB 4) (sC (.int 2)))) t__law_paper_9 sNext)
def t__law_paper_11 : RL.Env → SRes := (sRet (sTup (sCons (sVar 2) (sCons (sC (.str "help")) (sCons (sCl (sIx (sVarB 5) (sC (.int 0)))) (sCons (sVar 7) (sCons (sIx (sLst (sCons (sC (.str "every")) (sCons (sC (.str "ahead")) sNil))) (s2 opMod (sCallF 2 f__law_mixed (sCons (sVar 0) (sCons (sC (.int 106)) sNil))) (sC (.int 2)))) sNil)))))))
def t__law_paper_12 : RL.Env → SRes := (sIfS (sTest (s2 opEq (sVarB 4) (sC (.int 3)))) t__law_paper_11 sNext)
def t__law_paper_13 : RL.Env → SRes := (sAsg (.nm 10) true (sLst (sCons (sC (.str "away")) (sCons (sC (.str "unstarted")) (sCons (sC (.str "early")) (sCons (sC (.str "unfinished")) (sCons (sC (.str "retired")) (sCons (sC (.str "out")) (sCons (sC (.str "barred")) sNil)))))))))
def t__law_paper_14 : RL.Env → SRes := (sRet (sTup (sCons (sVar 2) (sCons (sC (.str "code")) (sCons (sCl (sIx (sVarB 5) (sC (.int 0)))) (sCons (sVar 7) (sCons (sCl (sIx (sVarB 10) (s2 opMod (sCallF 2 f__law_mixed (sCons (sVar 0) (sCons (sC (.int 107)) sNil))) (sC (.int 7))))) sNil)))))))
def t__law_paper_15 : RL.Env → SRes := (sIfS (sTest (s2 opLt (sVarB 4) (sC (.int 6)))) (sThen t__law_paper_13
    t__law_paper_14) sNext)
def t__law_paper_16 : RL.Env → SRes := (sAsg (.nm 8) true (s2 opMod (s2 opMul (sCallF 2 f__law_mixed (sCons (sVar 0) (sCons (sC (.int 108)) sNil))) (sC (.int 7))) (s2 opSub (sC (.int 360000)) (sIx (sVarB 5) (sC (.int 2))))))
def t__law_paper_17 : RL.Env → SRes := (sAsg (.nm 9) true (s2 opAdd (sIx (sVarB 5) (sC (.int 2))) (sIx (sLst (sCons (sVar 8) (sCons (sCall (on2 fMin2) (sCons (sVarB 8) (sCons (s2 opMod (sCallF 2 f__law_mixed (sCons (sVar 0) (sCons (sC (.int 109)) sNil))) (sC (.int 9))) sNil))) (sCons (sCall (on2 fMin2) (sCons (s2 opSub (sC (.int 359999)) (sIx (sVarB 5) (sC (.int 2)))) (sCons (sC (.int 600)) sNil))) sNil)))) (s2 opMod (sCallF 2 f__law_mixed (sCons (sVar 0) (sCons (sC (.int 110)) sNil))) (sC (.int 3))))))
def t__law_paper_18 : RL.Env → SRes := (sRet (sTup (sCons (sVar 2) (sCons (sC (.str "finish")) (sCons (sCl (sIx (sVarB 5) (sC (.int 0)))) (sCons (sVar 7) (sCons (sVar 9) sNil)))))))
def b__law_paper : RL.Env → SRes := (sThen t__law_paper_0
    (sThen t__law_paper_1
    (sThen t__law_paper_3
    (sThen t__law_paper_4
    (sThen t__law_paper_6
    (sThen t__law_paper_7
    (sThen t__law_paper_8
    (sThen t__law_paper_10
    (sThen t__law_paper_12
    (sThen t__law_paper_15
    (sThen t__law_paper_16
    (sThen t__law_paper_17
    t__law_paper_18))))))))))))
def f__law_paper : List D → FR := runDef 11 [] b__law_paper
def l__law_papers_0 : RL.Env → Res D := (sLc (sI rng1 (sCons (sCall (on1 fLenX) (sCons (sVarB 0) sNil)) sNil)) (.nm 5) [5] sYes (s2 opAdd (sC (.int 2)) (s2 opMod (s2 opAdd (sCallF 2 f__law_mixed (sCons (sVar 2) (sCons (sC (.int 120)) sNil))) (s2 opMul (sIx (sLst (sCons (sC (.int 1)) (sCons (sC (.int 4001)) (sCons (sC (.int 7919)) sNil)))) (s2 opMod (sVarB 2) (sC (.int 3)))) (sVarB 5))) (sC (.int 9998)))))
def t__law_papers_1 : RL.Env → SRes := (sAsg (.nm 3) true l__law_papers_0)
def t__law_papers_2 : RL.Env → SRes := (sAsg (.nm 4) false (sLst sNil))
def t__law_papers_3 : RL.Env → SRes := (sAsg (.nm 7) true (sCallF 3 f__law_paper (sCons (sCallF 2 f__law_mixed (sCons (sVar 6) (sCons (s2 opAdd (sC (.int 200)) (sVarB 5)) sNil))) (sCons (sVar 1) (sCons (sCl (sIx (sVarB 3) (sVarB 5))) sNil)))))
def l__law_papers_4 : RL.Env → Res D := (sLc (sIter (sVar 3)) (.nm 9) [9] (sTest (s2 opLt (sVarB 9) (sIx (sVarB 3) (sVarB 5)))) (sVar 9))
def t__law_papers_5 : RL.Env → SRes := (sAsg (.nm 8) true l__law_papers_4)
def t__law_papers_6 : RL.Env → SRes := (sAsg (.nm 7) true (sTup (sCons (sCl (sIx (sVarB 3) (sVarB 5))) (sCons (sC (.str "void")) (sCons (sCl (sIx (sVarB 8) (s2 opMod (sCallF 2 f__law_mixed (sCons (sVar 6) (sCons (s2 opAdd (sC (.int 500)) (sVarB 5)) sNil))) (sCall (on1 fLenX) (sCons (sVarB 8) sNil))))) sNil)))))
def t__law_papers_7 : RL.Env → SRes := (sIfS (sAndT (sTest (s2 opEq (sIx (sVarB 7) (sC (.int 1))) (sC (.str "void")))) (sAndT (sTest (s2 opNe (sVarB 8) (sLst sNil))) (sTest (s2 opGt (s2 opMod (sCallF 2 f__law_mixed (sCons (sVar 6) (sCons (s2 opAdd (sC (.int 300)) (sVarB 5)) sNil))) (sC (.int 4))) (sC (.int 0)))))) t__law_papers_6 sNext)
def t__law_papers_8 : RL.Env → SRes := (sMut mAppend (plVar 4) (sCons (sVar 7) sNil))
def k__law_papers_9 : RL.Env → SRes := (sThen t__law_papers_3
    (sThen t__law_papers_5
    (sThen t__law_papers_7
    t__law_papers_8)))
def t__law_papers_9 : RL.Env → SRes := (sFor (sI enum1 (sCons (sVar 0) sNil)) (.tp [(.nm 5), (.nm 6)])
    k__law_papers_9)
def b__law_papers : RL.Env → SRes := (sThen t__law_papers_1
    (sThen t__law_papers_2
    (sThen t__law_papers_9
    (sRetV 4))))
def f__law_papers : List D → FR := runDef 10 [] b__law_papers
end RQ

/-! RL: the laws' drawn papers, one. -/
namespace RQ
open PySem RL RM RG L2
open RN (f__law_mixed)
inductive Pk where
  | fin (r s : Str) (t : Int) | code (r s c : Str) | cost (r s : Str) (k : Int) | help (r s h : Str) | off (r : Str) | void (o : Int)
abbrev Pp := Int × Pk
abbrev wFin : Str := "finish"
abbrev wCode : Str := "code"
abbrev wCost : Str := "cost"
abbrev wHelp : Str := "help"
abbrev wOff : Str := "off"
abbrev wVoid : Str := "void"
def ppD : Pp → D
  | (n, .fin r s t) => .tup [.int n, .str wFin, .str r, .str s, .int t]
  | (n, .code r s c) => .tup [.int n, .str wCode, .str r, .str s, .str c]
  | (n, .cost r s k) => .tup [.int n, .str wCost, .str r, .str s, .int k]
  | (n, .help r s h) => .tup [.int n, .str wHelp, .str r, .str s, .str h]
  | (n, .off r) => .tup [.int n, .str wOff, .str r]
  | (n, .void o) => .tup [.int n, .str wVoid, .int o]
theorem ppD_clean (p : Pp) : (ppD p).clean = true := by
  obtain ⟨n, p⟩ := p
  cases p <;> simp [ppD, D.clean, cleanL]
theorem ppD_frz (p : Pp) : (ppD p).frz = ppD p := by
  obtain ⟨n, p⟩ := p
  cases p <;> simp [ppD, D.frz, frzL]
abbrev codes : List Str := ["away", "unstarted", "early", "unfinished", "retired", "out", "barred"]
/-- of a meeting -/
def PkOk (m : Mt) (n : Int) : Pk → Prop
  | .fin r s t => ∃ x ∈ m.rs, r = x.1 ∧ (∃ b ∈ sailsOf m x.2.1, s = b.1) ∧ x.2.2.1 ≤ t ∧ t ≤ 359999
  | .code r s c => ∃ x ∈ m.rs, r = x.1 ∧ (∃ b ∈ sailsOf m x.2.1, s = b.1) ∧ c ∈ codes
  | .cost r s k => ∃ x ∈ m.rs, r = x.1 ∧ (∃ b ∈ sailsOf m x.2.1, s = b.1) ∧ 1 ≤ k ∧ k ≤ 20
  | .help r s h => ∃ x ∈ m.rs, r = x.1 ∧ (∃ b ∈ sailsOf m x.2.1, s = b.1) ∧ (h = "every" ∨ h = "ahead")
  | .off r => ∃ x ∈ m.rs, r = x.1
  | .void o => 1 ≤ o ∧ o < n
def PpOk (m : Mt) (p : Pp) : Prop := 1 ≤ p.1 ∧ p.1 ≤ 9999 ∧ PkOk m p.1 p.2
section
variable {m : Mt} {nb nr : Nat}
theorem ix1 : opIx m.D (.int 1) = some (.tup (m.bs.map boatD)) := rfl
theorem ix3 : opIx m.D (.int 3) = some (.tup (m.rs.map raceD)) := rfl
theorem cB (m : Mt) : cleanL (m.bs.map boatD) = true := cleanL_of boatD_clean _
theorem cR (m : Mt) : cleanL (m.rs.map raceD) = true := cleanL_of raceD_clean _
theorem fR (m : Mt) : frzL (m.rs.map raceD) = m.rs.map raceD := frzL_of raceD_frz _
theorem entered_due (hb : m.bs.length ≤ 10000) {r : RcT} : f__law_entered [m.D, raceD r] = .ok (.lst true ((sailsOf m r.2.1).map fun b : BtT => D.str b.1)) [] := by
  have h2 : 2 ≤ sizeLine := by decide
  have ir : opIx (raceD r) (.int 1) = some (.str r.2.1) := rfl
  have l0 : l__law_entered_0 [some m.D, some (raceD r), none] = .ok (.lst true ((sailsOf m r.2.1).map fun b : BtT => D.str b.1)) := by
    refine lc_fl (e := boatD) hb (by simp [ix1, cB]) fun b _ => ?_
    simp [lcOne, wipeE, boatD, h2, in_two, ir]
    split <;> simp
  rw [f__law_entered, runDef_ap]
  simp [b__law_entered, entry, l0]
theorem sails_pos (g : Good nb nr m) {r : RcT} (h : r ∈ m.rs) : 0 < (sailsOf m r.2.1).length := by
  have b0 := g.b0
  rcases List.mem_append.mp (g.rok r h).1 with z | z
  · obtain ⟨b, h1, h2⟩ := List.mem_map.mp z
    exact List.length_pos_of_mem (List.mem_filter.mpr ⟨h1, by simp [h2]⟩)
  · have z := List.mem_singleton.mp z
    cases q : m.bs with
    | nil => rw [q] at b0; simp at b0
    | cons b bs => exact List.length_pos_of_mem (List.mem_filter.mpr ⟨by rw [q]; exact List.mem_cons_self, by rw [z]; simp⟩)
/-- what fits -/
theorem fit_race (g : Good nb nr m) {r : RcT} (h : r ∈ m.rs) {n : Nat} : fitN (n + 1) (raceD r) = true := by
  have h1 := (nx_of (g.rnm r h)).ok
  have h2 := (nx_fleet g h).ok
  cases n <;> simp [raceD, fitN, h1, h2]
theorem eq_races (g : Good nb nr m) : opEq (.tup (m.rs.map raceD)) (.tup []) = some (.bl (decide (m.rs = []))) := by
  have f : (D.tup (m.rs.map raceD)).fit = true := by
    unfold D.fit
    rw [show (60 : Nat) = 59 + 1 from rfl]
    simp only [fitN, List.all_map, List.all_eq_true]
    exact fun r hr => fit_race g hr
  have f2 : (D.tup []).fit = true := by decide
  cases q : m.rs with
  | nil =>
    rw [q] at f
    have := opEq_same (x := .tup []) (y := .tup []) f2 f2 rfl
    simpa using this
  | cons r rs =>
    rw [q] at f
    simp only [List.map_cons] at f
    simp only [List.map_cons, opEq, strs?, f, f2, and_self, if_true]
    simp [D.py, pyL, PyData.eqv, PyData.eqvAll]
abbrev EP (m : Mt) (c n : Int) (way race ent sail far time some_ : Option D) : RL.Env := [some (.int c), some m.D, some (.int n), some (.tup (m.rs.map raceD)), way, race, ent, sail, far, time, some_]
theorem mixE (c : Int) {k : Int} (h : -(2 ^ 64) < k ∧ k < 2 ^ 64) : ∃ v : Int, f__law_mixed [.int c, .int k] = .ok (.int v) [] := ⟨_, RN.mix_eq h⟩
theorem mix_in (n k : Int) : 0 ≤ RN.mixI n k ∧ RN.mixI n k < 1000003 := by
  unfold RN.mixI
  exact RN.mod_in _ (by decide)
theorem paper_eq (g : Good nb nr m) (hb : nb ≤ 100) (c : Int) {n : Int} (hn : 2 ≤ n) (hn2 : n ≤ 9999) : ∃ p : Pk, f__law_paper [.int c, m.D, .int n] = .ok (ppD (n, p)) [] ∧ PkOk m n p := by
  have h2 : 2 ≤ sizeLine := by decide
  have h3 : 3 ≤ sizeLine := by decide
  have h5 : 5 ≤ sizeLine := by decide
  have h7 : 7 ≤ sizeLine := by decide
  have z0 : 0 ≤ sizeLine := by decide
  have bl : m.bs.length ≤ 10000 := by have := g.bn; omega
  have eqr := eq_races g
  obtain ⟨v100, m100⟩ := mixE c (k := 100) (by decide)
  obtain ⟨v101, m101⟩ := mixE c (k := 101) (by decide)
  obtain ⟨v102, m102⟩ := mixE c (k := 102) (by decide)
  obtain ⟨v103, m103⟩ := mixE c (k := 103) (by decide)
  obtain ⟨v104, m104⟩ := mixE c (k := 104) (by decide)
  obtain ⟨v105, m105⟩ := mixE c (k := 105) (by decide)
  obtain ⟨v106, m106⟩ := mixE c (k := 106) (by decide)
  obtain ⟨v107, m107⟩ := mixE c (k := 107) (by decide)
  obtain ⟨v108, m108⟩ := mixE c (k := 108) (by decide)
  obtain ⟨v109, m109⟩ := mixE c (k := 109) (by decide)
  obtain ⟨v110, m110⟩ := mixE c (k := 110) (by decide)
  obtain ⟨w, wl, qw⟩ := modN v100 (b := 16) (by decide)
  generalize (w : Int) = w at *
  have e0 : t__law_paper_0 [some (.int c), some m.D, some (.int n), none, none, none, none, none, none, none, none] = .nx (EP m c n none none none none none none none) := by
    simp [t__law_paper_0, ix3, cR, fR]
  have e1 : t__law_paper_1 (EP m c n none none none none none none none) = .nx (EP m c n (some (.int w)) none none none none none none) := by
    simp [t__law_paper_1, m100, qw]
  have en : entry 11 [.int c, m.D, .int n] = [some (.int c), some m.D, some (.int n), none, none, none, none, none, none, none, none] := rfl
  by_cases hv : w = 0 ∨ m.rs = []
  · -- a void
    obtain ⟨a, al, qa⟩ := modN v101 (b := (if n - 1 > 1 then n - 1 else 1)) (by split <;> omega)
    have mx : fMax2 (.int 1) (.int (n - 1)) = some (.int (if n - 1 > 1 then n - 1 else 1)) := rfl
    generalize hmm : (if n - 1 > 1 then n - 1 else 1) = mm at *
    have e3 : t__law_paper_3 (EP m c n (some (.int w)) none none none none none none) = .rt (ppD (n, .void (1 + (a : Int)))) (EP m c n (some (.int w)) none none none none none none) := by
      by_cases hw : w = 0
      · simp [t__law_paper_3, t__law_paper_2, hw, m101, mx, qa, h3, ppD]
      · have hr : m.rs = [] := hv.resolve_left hw
        simp [t__law_paper_3, t__law_paper_2, hw, eqr, z0, m101, mx, qa, h3, ppD]
        simp [hr]
    refine ⟨.void (1 + (a : Int)), ?_, by omega, ?_⟩
    · rw [f__law_paper, runDef_ap]
      unfold b__law_paper
      rw [sThen_ap, en, e0, andThen_nx, sThen_ap, e1, andThen_nx, sThen_ap, e3, andThen_rt]
      rfl
    · rw [← hmm] at al
      split at al <;> omega
  · obtain ⟨hw, hrs⟩ := not_or.mp hv
    have e3 : t__law_paper_3 (EP m c n (some (.int w)) none none none none none none) = .nx (EP m c n (some (.int w)) none none none none none none) := by
      simp [t__law_paper_3, hw, eqr, hrs, z0]
    have rp : 0 < m.rs.length := List.length_pos_iff.mpr hrs
    have q102 := mod_pos' (i := v102) (j := (m.rs.length : Int)) (by omega)
    obtain ⟨r, r1, r2⟩ := ix_one (f := raceD) (o := false) (xs := m.rs) (i := v102) rp
    have r2' : opIx (.tup (m.rs.map raceD)) (.int (v102 % (m.rs.length : Int))) = some (raceD r) := r2
    generalize v102 % (m.rs.length : Int) = i102 at *
    have i0 : opIx (raceD r) (.int 0) = some (.str r.1) := rfl
    have i2 : opIx (raceD r) (.int 2) = some (.int r.2.2.1) := rfl
    have rok := g.rok r r1
    have e4 : t__law_paper_4 (EP m c n (some (.int w)) none none none none none none) = .nx (EP m c n (some (.int w)) (some (raceD r)) none none none none none) := by
      simp [t__law_paper_4, m102, q102, r2', raceD_clean, raceD_frz, -opIx_t]
    have q103 := mod_pos' (i := v103) (j := 3) (by decide)
    generalize v103 % 3 = w3 at *
    by_cases ho : w = 1 ∧ w3 = 0
    · have e6 : t__law_paper_6 (EP m c n (some (.int w)) (some (raceD r)) none none none none none) = .rt (ppD (n, .off r.1)) (EP m c n (some (.int w)) (some (raceD r)) none none none none none) := by
        simp [t__law_paper_6, t__law_paper_5, ho.1, ho.2, m103, q103, i0, h3, ppD]
      refine ⟨.off r.1, ?_, r, r1, rfl⟩
      rw [f__law_paper, runDef_ap]
      unfold b__law_paper
      rw [sThen_ap, en, e0, andThen_nx, sThen_ap, e1, andThen_nx, sThen_ap, e3, andThen_nx, sThen_ap, e4, andThen_nx, sThen_ap, e6, andThen_rt]
      rfl
    · have e6 : t__law_paper_6 (EP m c n (some (.int w)) (some (raceD r)) none none none none none) = .nx (EP m c n (some (.int w)) (some (raceD r)) none none none none none) := by
        by_cases h1 : w = 1
        · have : ¬ w3 = 0 := fun z => ho ⟨h1, z⟩
          simp [t__law_paper_6, h1, this, m103, q103]
        · simp [t__law_paper_6, h1]
      have ed := entered_due (m := m) bl (r := r)
      have sp := sails_pos g r1
      have e7 : t__law_paper_7 (EP m c n (some (.int w)) (some (raceD r)) none none none none none) = .nx (EP m c n (some (.int w)) (some (raceD r)) (some (.lst false ((sailsOf m r.2.1).map fun b : BtT => D.str b.1))) none none none none) := by
        simp [t__law_paper_7, ed, raceD_clean, raceD_frz, frzL_map]
      have q104 := mod_pos' (i := v104) (j := ((sailsOf m r.2.1).length : Int)) (by omega)
      obtain ⟨b, b1, b2⟩ := ix_one (f := fun b : BtT => D.str b.1) (o := false) (xs := sailsOf m r.2.1) (i := v104) sp
      generalize hss : sailsOf m r.2.1 = ss at *
      generalize v104 % (ss.length : Int) = i104 at *
      have e8 : t__law_paper_8 (EP m c n (some (.int w)) (some (raceD r)) (some (.lst false (ss.map fun b : BtT => D.str b.1))) none none none none) = .nx (EP m c n (some (.int w)) (some (raceD r)) (some (.lst false (ss.map fun b : BtT => D.str b.1))) (some (.str b.1)) none none none) := by
        simp [t__law_paper_8, m104, q104, b2, -opIx_l]
      obtain ⟨E, hE⟩ : ∃ E : Option D, E = some (D.lst false (ss.map fun b : BtT => D.str b.1)) := ⟨_, rfl⟩
      rw [← hE] at e7 e8
      by_cases h2 : w = 2
      · have q105 := mod_pos' (i := v105) (j := 20) (by decide)
        have b105 := RN.mod_in v105 (b := 20) (by decide)
        generalize v105 % 20 = k at *
        have e10 : t__law_paper_10 (EP m c n (some (.int w)) (some (raceD r)) E (some (.str b.1)) none none none) = .rt (ppD (n, .cost r.1 b.1 (1 + k))) (EP m c n (some (.int w)) (some (raceD r)) E (some (.str b.1)) none none none) := by
          simp [t__law_paper_10, t__law_paper_9, h2, m105, q105, i0, h5, ppD]
        refine ⟨.cost r.1 b.1 (1 + k), ?_, r, r1, rfl, ⟨b, by rw [hss]; exact b1, rfl⟩, by omega, by omega⟩
        rw [f__law_paper, runDef_ap]
        unfold b__law_paper
        rw [sThen_ap, en, e0, andThen_nx, sThen_ap, e1, andThen_nx, sThen_ap, e3, andThen_nx, sThen_ap, e4, andThen_nx, sThen_ap, e6, andThen_nx, sThen_ap, e7, andThen_nx, sThen_ap, e8, andThen_nx, sThen_ap, e10, andThen_rt]
        rfl
      · have e10 : t__law_paper_10 (EP m c n (some (.int w)) (some (raceD r)) E (some (.str b.1)) none none none) = .nx (EP m c n (some (.int w)) (some (raceD r)) E (some (.str b.1)) none none none) := by
          simp [t__law_paper_10, h2]
        by_cases h3' : w = 3
        · have q106 := mod_pos' (i := v106) (j := 2) (by decide)
          have b106 := RN.mod_in v106 (b := 2) (by decide)
          generalize v106 % 2 = k at *
          obtain ⟨hw', hh1, hh2⟩ := ix_mem (xs := [D.str "every", .str "ahead"]) b106.1 b106.2
          obtain ⟨how, rfl, hhow⟩ : ∃ s : Str, hw' = .str s ∧ (s = "every" ∨ s = "ahead") := by
            simp only [List.mem_cons, List.not_mem_nil, or_false] at hh2
            rcases hh2 with rfl | rfl
            · exact ⟨_, rfl, .inl rfl⟩
            · exact ⟨_, rfl, .inr rfl⟩
          have e12 : t__law_paper_12 (EP m c n (some (.int w)) (some (raceD r)) E (some (.str b.1)) none none none) = .rt (ppD (n, .help r.1 b.1 how)) (EP m c n (some (.int w)) (some (raceD r)) E (some (.str b.1)) none none none) := by
            simp [t__law_paper_12, t__law_paper_11, h3', m106, q106, i0, h5, h2, hh1, ppD, sizeLine]
          refine ⟨.help r.1 b.1 how, ?_, r, r1, rfl, ⟨b, by rw [hss]; exact b1, rfl⟩, hhow⟩
          rw [f__law_paper, runDef_ap]
          unfold b__law_paper
          rw [sThen_ap, en, e0, andThen_nx, sThen_ap, e1, andThen_nx, sThen_ap, e3, andThen_nx, sThen_ap, e4, andThen_nx, sThen_ap, e6, andThen_nx, sThen_ap, e7, andThen_nx, sThen_ap, e8, andThen_nx, sThen_ap, e10, andThen_nx, sThen_ap, e12, andThen_rt]
          rfl
        · have e12 : t__law_paper_12 (EP m c n (some (.int w)) (some (raceD r)) E (some (.str b.1)) none none none) = .nx (EP m c n (some (.int w)) (some (raceD r)) E (some (.str b.1)) none none none) := by
            simp [t__law_paper_12, h3']
          by_cases h6 : w < 6
          · have q107 := mod_pos' (i := v107) (j := 7) (by decide)
            have b107 := RN.mod_in v107 (b := 7) (by decide)
            generalize v107 % 7 = k at *
            obtain ⟨cd, c1, c2⟩ := ix_mem (xs := codes.map D.str) b107.1 (by rw [List.length_map]; exact b107.2)
            obtain ⟨cs, c3, rfl⟩ := List.mem_map.mp c2
            have c1' : opIx (.lst false (codes.map D.str)) (.int k) = some (.str cs) := c1
            have e13 : t__law_paper_13 (EP m c n (some (.int w)) (some (raceD r)) E (some (.str b.1)) none none none) = .nx (EP m c n (some (.int w)) (some (raceD r)) E (some (.str b.1)) none none (some (.lst false (codes.map D.str)))) := by
              simp [t__law_paper_13, h7]
            have e14 : t__law_paper_14 (EP m c n (some (.int w)) (some (raceD r)) E (some (.str b.1)) none none (some (.lst false (codes.map D.str)))) = .rt (ppD (n, .code r.1 b.1 cs)) (EP m c n (some (.int w)) (some (raceD r)) E (some (.str b.1)) none none (some (.lst false (codes.map D.str)))) := by
              generalize codes.map D.str = cl at *
              simp [t__law_paper_14, m107, q107, i0, h5, c1', ppD, -opIx_l]
            have e15 : t__law_paper_15 (EP m c n (some (.int w)) (some (raceD r)) E (some (.str b.1)) none none none) = .rt (ppD (n, .code r.1 b.1 cs)) (EP m c n (some (.int w)) (some (raceD r)) E (some (.str b.1)) none none (some (.lst false (codes.map D.str)))) := by
              rw [t__law_paper_15, sIfS_ap]
              have : sTest (s2 opLt (sVarB 4) (sC (.int 6))) (EP m c n (some (.int w)) (some (raceD r)) E (some (.str b.1)) none none none) = .ok true := by simp [h6]
              rw [this, stm_ok, if_pos rfl, sThen_ap, e13, andThen_nx, e14]
            refine ⟨.code r.1 b.1 cs, ?_, r, r1, rfl, ⟨b, by rw [hss]; exact b1, rfl⟩, c3⟩
            rw [f__law_paper, runDef_ap]
            unfold b__law_paper
            rw [sThen_ap, en, e0, andThen_nx, sThen_ap, e1, andThen_nx, sThen_ap, e3, andThen_nx, sThen_ap, e4, andThen_nx, sThen_ap, e6, andThen_nx, sThen_ap, e7, andThen_nx, sThen_ap, e8, andThen_nx, sThen_ap, e10, andThen_nx, sThen_ap, e12, andThen_nx, sThen_ap, e15, andThen_rt]
            rfl
          · have e15 : t__law_paper_15 (EP m c n (some (.int w)) (some (raceD r)) E (some (.str b.1)) none none none) = .nx (EP m c n (some (.int w)) (some (raceD r)) E (some (.str b.1)) none none none) := by
              simp [t__law_paper_15, h6]
            obtain ⟨_, st1, st2, _, _⟩ := rok
            generalize hst : r.2.2.1 = st at *
            have mk := mulOk_r (i := v108) (j := 7) (by decide) (by decide)
            have mm := opMul_i mk
            generalize v108 * 7 = v7 at *
            obtain ⟨far, fl, qf⟩ := modN v7 (b := 360000 - st) (by omega)
            obtain ⟨n9, nl, q9⟩ := modN v109 (b := 9) (by decide)
            have q110 := mod_pos' (i := v110) (j := 3) (by decide)
            have b110 := RN.mod_in v110 (b := 3) (by decide)
            generalize v110 % 3 = k at *
            have mn1 : fMin2 (.int (far : Int)) (.int (n9 : Int)) = some (.int (if (n9 : Int) < far then (n9 : Int) else far)) := rfl
            have mn2 : fMin2 (.int (359999 - st)) (.int 600) = some (.int (if 600 < 359999 - st then 600 else 359999 - st)) := rfl
            obtain ⟨td, t1, t2⟩ := ix_mem (xs := [D.int far, .int (if (n9 : Int) < far then (n9 : Int) else far), .int (if 600 < 359999 - st then 600 else 359999 - st)]) b110.1 b110.2
            obtain ⟨ti, rfl, ti1, ti2⟩ : ∃ z : Int, td = .int z ∧ 0 ≤ z ∧ z ≤ 359999 - st := by
              simp only [List.mem_cons, List.not_mem_nil, or_false] at t2
              rcases t2 with rfl | rfl | rfl
              · exact ⟨_, rfl, by omega, by omega⟩
              · exact ⟨_, rfl, by split <;> omega, by split <;> omega⟩
              · exact ⟨_, rfl, by split <;> omega, by split <;> omega⟩
            generalize (if (n9 : Int) < far then (n9 : Int) else far) = x1 at *
            generalize (if 600 < 359999 - st then 600 else 359999 - st) = x2 at *
            have e16 : t__law_paper_16 (EP m c n (some (.int w)) (some (raceD r)) E (some (.str b.1)) none none none) = .nx (EP m c n (some (.int w)) (some (raceD r)) E (some (.str b.1)) (some (.int far)) none none) := by
              simp [t__law_paper_16, m108, mm, i2, qf]
            have e17 : t__law_paper_17 (EP m c n (some (.int w)) (some (raceD r)) E (some (.str b.1)) (some (.int far)) none none) = .nx (EP m c n (some (.int w)) (some (raceD r)) E (some (.str b.1)) (some (.int far)) (some (.int (st + ti))) none) := by
              simp [t__law_paper_17, m109, m110, i2, q9, q110, mn1, mn2, h3, t1]
            have e18 : t__law_paper_18 (EP m c n (some (.int w)) (some (raceD r)) E (some (.str b.1)) (some (.int far)) (some (.int (st + ti))) none) = .rt (ppD (n, .fin r.1 b.1 (st + ti))) (EP m c n (some (.int w)) (some (raceD r)) E (some (.str b.1)) (some (.int far)) (some (.int (st + ti))) none) := by
              simp [t__law_paper_18, i0, h5, ppD]
            refine ⟨.fin r.1 b.1 (st + ti), ?_, r, r1, rfl, ⟨b, by rw [hss]; exact b1, rfl⟩, by omega, by omega⟩
            rw [f__law_paper, runDef_ap]
            unfold b__law_paper
            rw [sThen_ap, en, e0, andThen_nx, sThen_ap, e1, andThen_nx, sThen_ap, e3, andThen_nx, sThen_ap, e4, andThen_nx, sThen_ap, e6, andThen_nx, sThen_ap, e7, andThen_nx, sThen_ap, e8, andThen_nx, sThen_ap, e10, andThen_nx, sThen_ap, e12, andThen_nx, sThen_ap, e15, andThen_nx, sThen_ap, e16, andThen_nx, sThen_ap, e17, andThen_nx, e18]
            rfl
end
end RQ

/-! RL: the laws' drawn papers. -/
namespace RL
theorem pairs_zip {α : Type} {f : α → D} : ∀ (xs : List α) (k : Nat), pairsI k (xs.map f) = (xs.zipIdx k).map fun p => .tup [.int (p.2 : Int), f p.1]
  | [], _ => rfl
  | x :: xs, k => by
    simp only [List.map_cons, pairsI, List.zipIdx_cons, pairs_zip xs (k + 1)]
theorem enum_ints {o : Bool} {cs : List Int} : enum1 [.lst o (cs.map .int)] = some ((cs.zipIdx 0).map fun p => .tup [.int (p.2 : Int), .int p.1]) := by
  simp only [enum1, lstD_l cleanL_ints, Option.map_some, pairs_zip]
theorem zip_at {α : Type} {xs : List α} {p q : List (α × Nat)} {x : α} {k : Nat} (h : xs.zipIdx 0 = p ++ (x, k) :: q) : k = p.length ∧ k < xs.length := by
  have h1 : (xs.zipIdx 0)[p.length]? = some (x, k) := by rw [h]; simp
  rw [List.getElem?_zipIdx] at h1
  have hl : p.length < xs.length := by
    have := congrArg List.length h
    simp at this
    omega
  rw [List.getElem?_eq_getElem hl] at h1
  simp at h1
  omega
theorem fit_ints {o : Bool} {xs : List Int} : (D.lst o (xs.map .int)).fit = true := by
  unfold D.fit
  rw [show (60 : Nat) = 59 + 1 from rfl]
  simp only [fitN, List.all_map, List.all_eq_true]
  intro x _
  simp [fitN]
theorem ne_nil_ints {o o' : Bool} {xs : List Int} : opNe (.lst o (xs.map .int)) (.lst o' []) = some (.bl (!decide (xs = []))) := by
  have f := fit_ints (o := o) (xs := xs)
  have f2 := fit_ints (o := o') (xs := [])
  cases xs with
  | nil => exact opNe_same f f2 rfl
  | cons x xs =>
    simp only [List.map_cons, List.map_nil] at f f2 ⊢
    simp only [opNe, strs?, f, f2, and_self, if_true]
    simp [D.py, pyL, PySem.PyData.eqv, PySem.PyData.eqvAll]
end RL
namespace RQ
open PySem RL RM RG L2
open RN (f__law_mixed)
def Pk.word : Pk → Str
  | .fin _ _ _ => wFin
  | .code _ _ _ => wCode
  | .cost _ _ _ => wCost
  | .help _ _ _ => wHelp
  | .off _ => wOff
  | .void _ => wVoid
theorem p0 (p : Pp) : opIx (ppD p) (.int 0) = some (.int p.1) := by
  obtain ⟨n, p⟩ := p
  cases p <;> rfl
theorem p1 (p : Pp) : opIx (ppD p) (.int 1) = some (.str p.2.word) := by
  obtain ⟨n, p⟩ := p
  cases p <;> rfl
/-- the drawn numbers -/
def numAt (v s : Int) (j : Nat) : Int := 2 + (v + s * j) % 9998
theorem numAt_in (v s : Int) (j : Nat) : 2 ≤ numAt v s j ∧ numAt v s j ≤ 9999 := by
  unfold numAt
  have := RN.mod_in (v + s * j) (b := 9998) (by decide)
  omega
def StepOk (s : Int) : Prop := s = 1 ∨ s = 4001 ∨ s = 7919
theorem numAt_inj {v s : Int} {i j : Nat} (hs : StepOk s) (hi : i < 1000) (hj : j < 1000) (h : numAt v s i = numAt v s j) : i = j := by
  unfold numAt at h
  rcases hs with rfl | rfl | rfl <;> omega
theorem num_nodup {v s : Int} {n : Nat} (hs : StepOk s) (hn : n ≤ 1000) : ((List.range n).map (numAt v s)).Nodup := by
  refine List.Pairwise.map (R := fun i j => i ≠ j ∧ i < n ∧ j < n) _ (fun i j h e => h.1 (numAt_inj hs (by omega) (by omega) e)) ?_
  exact List.Pairwise.imp_of_mem (R := fun i j => i ≠ j) (fun {i j} hi hj hne => ⟨hne, List.mem_range.mp hi, List.mem_range.mp hj⟩) List.nodup_range
section
variable {m : Mt} {nb nr : Nat}
abbrev EPs (m : Mt) (cs : List Int) (k : Int) (nums : List Int) (ps : List Pp) (j c p l : Option D) : RL.Env := [some (.lst false (cs.map .int)), some m.D, some (.int k), some (.lst false (nums.map .int)), some (.lst true (ps.map ppD)), j, c, p, l, none]
theorem pap_step (g : Good nb nr m) (hb : nb ≤ 100) {cs : List Int} {k : Int} {nums : List Int} {ps : List Pp} {j : Nat} {c : Int} {p0' l0 : Option D} (hn : ∀ x ∈ nums, 2 ≤ x ∧ x ≤ 9999) (hj : j < nums.length) (hj2 : j ≤ 1000) (hp : ps.length ≤ 1000) (hl : nums.length ≤ 1000) :
    ∃ (p : Pk) (l' : Option D), k__law_papers_9 (EPs m cs k nums ps (some (.int (j : Int))) (some (.int c)) p0' l0) = .nx (EPs m cs k nums (ps ++ [(nums.getD j 0, p)]) (some (.int (j : Int))) (some (.int c)) (some (ppD (nums.getD j 0, p))) l') ∧ PkOk m (nums.getD j 0) p := by
  have h3 : 3 ≤ sizeLine := by decide
  have z0 : 0 ≤ sizeLine := by decide
  have lt : ps.length < sizeLine := by unfold sizeLine; omega
  obtain ⟨v2, m2⟩ := mixE c (k := 200 + (j : Int)) (by omega)
  obtain ⟨v3, m3⟩ := mixE c (k := 300 + (j : Int)) (by omega)
  obtain ⟨v5, m5⟩ := mixE c (k := 500 + (j : Int)) (by omega)
  have hx : nums[j]? = some (nums.getD j 0) := by simp [List.getD, List.getElem?_eq_getElem hj]
  have hmem : nums.getD j 0 ∈ nums := List.mem_of_getElem? hx
  generalize nums.getD j 0 = n at *
  have ixn : opIx (.lst false (nums.map .int)) (.int (j : Int)) = some (.int n) := by
    show atI (nums.map D.int) (j : Int) = _
    rw [RL.atI_nat, List.getElem?_map, hx]; rfl
  obtain ⟨p, hpe, hpo⟩ := paper_eq g hb v2 (hn n hmem).1 (hn n hmem).2
  have e3 : t__law_papers_3 (EPs m cs k nums ps (some (.int (j : Int))) (some (.int c)) p0' l0) = .nx (EPs m cs k nums ps (some (.int (j : Int))) (some (.int c)) (some (ppD (n, p))) l0) := by
    simp [t__law_papers_3, m2, ixn, hpe, ppD_frz, -opIx_l]
  have l4 : l__law_papers_4 (EPs m cs k nums ps (some (.int (j : Int))) (some (.int c)) (some (ppD (n, p))) l0) = .ok (.lst true ((nums.filter fun x => decide (x < n)).map .int)) := by
    refine lc_fl (e := D.int) (by omega) (by simp) fun x _ => ?_
    simp [lcOne, wipeE, ixn, -opIx_l]
    split <;> simp
  have e5 : t__law_papers_5 (EPs m cs k nums ps (some (.int (j : Int))) (some (.int c)) (some (ppD (n, p))) l0) = .nx (EPs m cs k nums ps (some (.int (j : Int))) (some (.int c)) (some (ppD (n, p))) (some (.lst false ((nums.filter fun x => decide (x < n)).map .int)))) := by
    simp [t__law_papers_5, l4]
  have less : ∀ x ∈ nums.filter (fun x => decide (x < n)), 2 ≤ x ∧ x < n := fun x h => ⟨(hn x (List.mem_filter.mp h).1).1, by simpa using (List.mem_filter.mp h).2⟩
  generalize nums.filter (fun x => decide (x < n)) = ls at *
  have q3 := mod_pos' (i := v3) (j := 4) (by decide)
  generalize v3 % 4 = w3 at *
  have e8 : ∀ q : Pk, t__law_papers_8 (EPs m cs k nums ps (some (.int (j : Int))) (some (.int c)) (some (ppD (n, q))) (some (.lst false (ls.map .int)))) = .nx (EPs m cs k nums (ps ++ [(n, q)]) (some (.int (j : Int))) (some (.int c)) (some (ppD (n, q))) (some (.lst false (ls.map .int)))) := fun q => by
    simp [t__law_papers_8, ppD_clean, lt]
  have ip := p1 (n, p)
  have nn := ne_nil_ints (o := false) (o' := true) (xs := ls)
  by_cases hc : p.word = wVoid ∧ ls ≠ [] ∧ 0 < w3
  · obtain ⟨c1, c2, c3⟩ := hc
    have lp : 0 < ls.length := List.length_pos_iff.mpr c2
    have q5 := mod_pos' (i := v5) (j := (ls.length : Int)) (by omega)
    obtain ⟨o, o1, o2⟩ := ix_one (f := D.int) (o := false) (xs := ls) (i := v5) lp
    generalize v5 % (ls.length : Int) = i5 at *
    have e6 : t__law_papers_6 (EPs m cs k nums ps (some (.int (j : Int))) (some (.int c)) (some (ppD (n, p))) (some (.lst false (ls.map .int)))) = .nx (EPs m cs k nums ps (some (.int (j : Int))) (some (.int c)) (some (ppD (n, .void o))) (some (.lst false (ls.map .int)))) := by
      simp [t__law_papers_6, ixn, m5, q5, o2, h3, ppD, -opIx_l]
    have e7 : t__law_papers_7 (EPs m cs k nums ps (some (.int (j : Int))) (some (.int c)) (some (ppD (n, p))) (some (.lst false (ls.map .int)))) = .nx (EPs m cs k nums ps (some (.int (j : Int))) (some (.int c)) (some (ppD (n, .void o))) (some (.lst false (ls.map .int)))) := by
      rw [t__law_papers_7, sIfS_ap]
      have : (sAndT (sTest (s2 opEq (sIx (sVarB 7) (sC (.int 1))) (sC (.str "void")))) (sAndT (sTest (s2 opNe (sVarB 8) (sLst sNil))) (sTest (s2 opGt (s2 opMod (sCallF 2 f__law_mixed (sCons (sVar 6) (sCons (s2 opAdd (sC (.int 300)) (sVarB 5)) sNil))) (sC (.int 4))) (sC (.int 0)))))) (EPs m cs k nums ps (some (.int (j : Int))) (some (.int c)) (some (ppD (n, p))) (some (.lst false (ls.map .int)))) = .ok true := by
        simp [ip, c1, nn, c2, z0, m3, q3, c3]
      rw [this, stm_ok, if_pos rfl, e6]
    refine ⟨.void o, some (.lst false (ls.map .int)), ?_, by have := less o o1; exact ⟨by omega, this.2⟩⟩
    rw [k__law_papers_9, sThen_ap, e3, andThen_nx, sThen_ap, e5, andThen_nx, sThen_ap, e7, andThen_nx, e8]
  · have e7 : t__law_papers_7 (EPs m cs k nums ps (some (.int (j : Int))) (some (.int c)) (some (ppD (n, p))) (some (.lst false (ls.map .int)))) = .nx (EPs m cs k nums ps (some (.int (j : Int))) (some (.int c)) (some (ppD (n, p))) (some (.lst false (ls.map .int)))) := by
      rw [t__law_papers_7, sIfS_ap]
      have : (sAndT (sTest (s2 opEq (sIx (sVarB 7) (sC (.int 1))) (sC (.str "void")))) (sAndT (sTest (s2 opNe (sVarB 8) (sLst sNil))) (sTest (s2 opGt (s2 opMod (sCallF 2 f__law_mixed (sCons (sVar 6) (sCons (s2 opAdd (sC (.int 300)) (sVarB 5)) sNil))) (sC (.int 4))) (sC (.int 0)))))) (EPs m cs k nums ps (some (.int (j : Int))) (some (.int c)) (some (ppD (n, p))) (some (.lst false (ls.map .int)))) = .ok false := by
        by_cases c1 : p.word = wVoid
        · by_cases c2 : ls = []
          · have nn' := ne_nil_ints (o := false) (o' := true) (xs := [])
            simp only [List.map_nil] at nn'
            simp [ip, c1, nn', c2, z0]
          · have c3 : ¬ 0 < w3 := fun z => hc ⟨c1, c2, z⟩
            simp [ip, c1, nn, c2, z0, m3, q3, c3]
        · simp [ip, c1]
      rw [this, stm_ok, if_neg (by simp)]
      rfl
    exact ⟨p, some (.lst false (ls.map .int)), by rw [k__law_papers_9, sThen_ap, e3, andThen_nx, sThen_ap, e5, andThen_nx, sThen_ap, e7, andThen_nx, e8], hpo⟩
/-- the drawn papers: of unlike numbers, of the meeting -/
theorem papers_eq (g : Good nb nr m) (hb : nb ≤ 100) {cs : List Int} (k : Int) (hc : cs.length ≤ 100) : ∃ ps : List Pp, f__law_papers [.lst false (cs.map .int), m.D, .int k] = .ok (.lst true (ps.map ppD)) [] ∧ (ps.map (·.1)).Nodup ∧ ps.length = cs.length ∧ ∀ p ∈ ps, PpOk m p := by
  have h3 : 3 ≤ sizeLine := by decide
  have z0 : 0 ≤ sizeLine := by decide
  obtain ⟨v, mv⟩ := mixE k (k := 120) (by decide)
  have q3 := mod_pos' (i := k) (j := 3) (by decide)
  have b3 := RN.mod_in k (b := 3) (by decide)
  generalize k % 3 = k3 at *
  obtain ⟨sd, s1, s2⟩ := ix_mem (xs := [D.int 1, .int 4001, .int 7919]) b3.1 b3.2
  obtain ⟨s, rfl, hs⟩ : ∃ s : Int, sd = .int s ∧ StepOk s := by
    simp only [List.mem_cons, List.not_mem_nil, or_false] at s2
    rcases s2 with rfl | rfl | rfl
    · exact ⟨_, rfl, .inl rfl⟩
    · exact ⟨_, rfl, .inr (.inl rfl)⟩
    · exact ⟨_, rfl, .inr (.inr rfl)⟩
  have hst : -(2 ^ 64) < s ∧ s < 2 ^ 64 := by rcases hs with rfl | rfl | rfl <;> decide
  have l0 : l__law_papers_0 [some (.lst false (cs.map .int)), some m.D, some (.int k), none, none, none, none, none, none, none] = .ok (.lst true ((List.range cs.length).map fun j => D.int (numAt v s j))) := by
    refine lc_up (by omega) ?_ fun j hj => ?_
    · have e : (sCons (sCall (on1 fLenX) (sCons (sVarB 0) sNil)) sNil) [some (.lst false (cs.map .int)), some m.D, some (.int k), none, none, none, none, none, none, none] = .ok [D.int (cs.length : Int)] := by simp
      rw [sI_ap, e, bind_ok, rng1_nat (by omega)]; rfl
    · have mk := opMul_i (mulOk_l (i := s) (j := (j : Int)) hst.1 hst.2)
      have qm := mod_pos' (i := v + s * (j : Int)) (j := 9998) (by decide)
      have hd : numAt v s j = 2 + (v + s * (j : Int)) % 9998 := rfl
      generalize (v + s * (j : Int)) % 9998 = r at *
      generalize (j : Int) = jj at *
      simp [lcOne, wipeE, mv, q3, s1, h3, mk, qm, hd]
  obtain ⟨nums, hnums⟩ : ∃ nums : List Int, nums = (List.range cs.length).map (numAt v s) := ⟨_, rfl⟩
  have l0' : ((List.range cs.length).map fun j => D.int (numAt v s j)) = nums.map .int := by rw [hnums, List.map_map]; rfl
  rw [l0'] at l0
  have nl : nums.length = cs.length := by rw [hnums]; simp
  have nin : ∀ x ∈ nums, 2 ≤ x ∧ x ≤ 9999 := fun x hx => by
    rw [hnums] at hx
    obtain ⟨j, _, rfl⟩ := List.mem_map.mp hx
    exact numAt_in v s j
  have nd : nums.Nodup := by rw [hnums]; exact num_nodup hs (by omega)
  clear hnums l0'
  have e1 : t__law_papers_1 [some (.lst false (cs.map .int)), some m.D, some (.int k), none, none, none, none, none, none, none] = .nx [some (.lst false (cs.map .int)), some m.D, some (.int k), some (.lst false (nums.map .int)), none, none, none, none, none, none] := by
    rw [t__law_papers_1, sAsg_ap, l0]; simp
  have e2 : t__law_papers_2 [some (.lst false (cs.map .int)), some m.D, some (.int k), some (.lst false (nums.map .int)), none, none, none, none, none, none] = .nx (EPs m cs k nums [] none none none none) := by
    simp [t__law_papers_2, z0]
  obtain ⟨ρ', hf, ps, j, c, p, l, rfl, h1, h2⟩ := for_of (e := fun p : Int × Nat => D.tup [.int (p.2 : Int), .int p.1]) (t := .tp [.nm 5, .nm 6]) (S := k__law_papers_9) (fun pre ρ => ∃ ps j c p l, ρ = EPs m cs k nums ps j c p l ∧ ps.map (·.1) = nums.take pre.length ∧ ∀ p ∈ ps, PpOk m p)
    (xs := cs.zipIdx 0) (ρ := EPs m cs k nums [] none none none none) ⟨[], none, none, none, none, rfl, by simp, by simp⟩ (by
      rintro pre ⟨x, i⟩ q ρ hx ⟨ps, j, c, p, l, rfl, h1, h2⟩
      obtain ⟨i1, i2⟩ := zip_at hx
      have pl : ps.length = pre.length := by
        have := congrArg List.length h1
        rw [List.length_map, List.length_take] at this
        omega
      obtain ⟨pk, l', st, ok⟩ := pap_step g hb (cs := cs) (k := k) (nums := nums) (ps := ps) (j := i) (c := x) (p0' := p) (l0 := l) nin (by omega) (by omega) (by omega) (by omega)
      refine ⟨EPs m cs k nums ps (some (.int (i : Int))) (some (.int x)) p l, _, by simp, st, _, _, _, _, _, rfl, ?_, ?_⟩
      · rw [List.map_append, h1, List.length_append, List.length_cons, List.length_nil, Nat.zero_add, List.take_succ, List.getElem?_eq_getElem (by omega)]
        subst i1
        simp [List.getD, List.getElem?_eq_getElem (show pre.length < nums.length by omega)]
      · intro y hy
        rcases List.mem_append.mp hy with hy | hy
        · exact h2 y hy
        · rw [List.mem_singleton.mp hy]
          have hx : nums[i]? = some (nums.getD i 0) := by simp [List.getD, List.getElem?_eq_getElem (show i < nums.length by omega)]
          have := nin _ (List.mem_of_getElem? hx)
          exact ⟨by omega, this.2, ok⟩)
  rw [List.length_zipIdx, ← nl, List.take_length] at h1
  have e9 : t__law_papers_9 (EPs m cs k nums [] none none none none) = .nx (EPs m cs k nums ps j c p l) := by
    have e : (sCons (sVar 0) sNil) (EPs m cs k nums [] none none none none) = .ok [.lst false (cs.map .int)] := by simp
    rw [t__law_papers_9, sFor_ap, sI_ap, e, bind_ok, enum_ints, opt_some, stm_ok]
    exact hf
  refine ⟨ps, ?_, by rw [h1]; exact nd, ?_, h2⟩
  · rw [f__law_papers, runDef_ap]
    unfold b__law_papers
    rw [sThen_ap, show entry 10 [D.lst false (cs.map .int), m.D, .int k] = [some (.lst false (cs.map .int)), some m.D, some (.int k), none, none, none, none, none, none, none] from rfl, e1, andThen_nx, sThen_ap, e2, andThen_nx, sThen_ap, e9, andThen_nx]
    simp
  · have := congrArg List.length h1
    rw [List.length_map] at this
    omega
end
end RQ

namespace RK
open PySem RL
def t_counting_0 : RL.Env → SRes := (sAsg (.nm 1) false (sLst sNil))
def t_counting_1 : RL.Env → SRes := (sAsg (.nm 2) false (sC (.dct true [] [])))
def t_counting_2 : RL.Env → SRes := (sMut mAppend (plVar 1) (sCons (sVar 3) sNil))
def t_counting_3 : RL.Env → SRes := (sPutD true (plVar 2) (sIx (sVarB 3) (sC (.int 2))) (sC (.bl true)))
def t_counting_4 : RL.Env → SRes := (sIfS (sTest (s2 opEq (sIx (sVarB 3) (sC (.int 1))) (sC (.str "void")))) t_counting_3 sNext)
def t_counting_5 : RL.Env → SRes := (sIfS (sTest (s2 oNotIn (sIx (sVarB 3) (sC (.int 0))) (sVarB 2))) (sThen t_counting_2
    t_counting_4) sNext)
def t_counting_6 : RL.Env → SRes := (sFor (sIter (s1 opRev (s1 (fSortK false key1D is1D) (sVarB 0)))) (.nm 3)
    t_counting_5)
def t_counting_7 : RL.Env → SRes := (sRet (s1 opRev (sVarB 1)))
def b_counting : RL.Env → SRes := (sThen t_counting_0
    (sThen t_counting_1
    (sThen t_counting_6
    t_counting_7)))
def f_counting : List D → FR := runDef 4 [] b_counting
end RK

/-! RL: the papers that count. -/
namespace RK
open PySem RL RM RG RQ L2
/-- a dict that marks numbers -/
def dM (vd : List Int) : D := .dct true (vd.map Sum.inl) (vd.map fun _ => D.bl true)
theorem ixOf_I {s : Int} : ∀ {xs : List Int}, (ixOf (xs.map (Sum.inl : Int → Key)) (.inl s)).isSome = decide (s ∈ xs)
  | [] => by simp [ixOf]
  | y :: ys => by
    simp only [List.map_cons, ixOf]
    by_cases h : y = s
    · simp [h]
    · have h2 : (Sum.inl y : Key) ≠ .inl s := fun e => h (Sum.inl.inj e)
      have h3 : ¬ s = y := fun e => h e.symm
      rw [if_neg h2, Option.isSome_map, ixOf_I]
      simp [h3]
theorem notin_M {n : Int} {vd : List Int} : oNotIn (.int n) (dM vd) = some (.bl (!decide (n ∈ vd))) := by
  simp only [oNotIn, fIn, dM, RL.keyOf, Option.map_some, ixOf_I]
/-- a number marked -/
def mkV (o : Int) (vd : List Int) : List Int := if o ∈ vd then vd else vd ++ [o]
theorem put_M {o : Int} {vd : List Int} (h : vd.length ≤ 1000) (nd : vd.Nodup) : putD (.int o) (.bl true) (dM vd) = some (dM (mkV o vd)) := by
  have e := ixOf_I (s := o) (xs := vd)
  have lt : vd.length < sizeLine := by unfold sizeLine; omega
  have ndm : (vd.map (Sum.inl : Int → Key)).Nodup := List.Pairwise.map _ (fun a b h e => h (Sum.inl.inj e)) nd
  simp only [putD, dM, RL.keyOf, Option.bind_some]
  cases q : ixOf (vd.map (Sum.inl : Int → Key)) (.inl o) with
  | none =>
    have hx : o ∉ vd := by rw [q] at e; simpa using e
    simp [q, putKs, putVs, mkV, hx, lt, ndm]
  | some j =>
    have hx : o ∈ vd := by rw [q] at e; simpa using e
    have same : (vd.map fun _ => D.bl true).set j (.bl true) = vd.map fun _ => D.bl true := by
      apply List.ext_getElem?
      intro i
      rw [List.getElem?_set]
      split
      · rename_i h
        subst h
        rw [List.getElem?_map, List.length_map]
        split
        · rename_i h2
          rw [List.getElem?_eq_getElem h2]; rfl
        · rename_i h2
          rw [List.getElem?_eq_none (by omega)]; rfl
      · rfl
    simp [q, putKs, putVs, mkV, hx, lt, same, ndm]
/-- one more paper, from the greatest number down -/
def addV (k : Pk) (vd : List Int) : List Int := match k with
  | .void o => mkV o vd
  | _ => vd
def stepC (s : List Pp × List Int) (p : Pp) : List Pp × List Int := if p.1 ∈ s.2 then s else (s.1 ++ [p], addV p.2 s.2)
def runC (ps : List Pp) : List Pp × List Int := ps.foldl stepC ([], [])
theorem runC_snoc (ps : List Pp) (p : Pp) : runC (ps ++ [p]) = stepC (runC ps) p := by simp [runC, List.foldl_append]
theorem runC_len (ps : List Pp) : (runC ps).1.length ≤ ps.length ∧ (runC ps).2.length ≤ ps.length := by
  have main : ∀ (ps : List Pp) (s : List Pp × List Int), (ps.foldl stepC s).1.length ≤ s.1.length + ps.length ∧ (ps.foldl stepC s).2.length ≤ s.2.length + ps.length := by
    intro ps
    induction ps with
    | nil => intro s; simp
    | cons p ps ih =>
      intro s
      have h := ih (stepC s p)
      have hs : (stepC s p).1.length ≤ s.1.length + 1 ∧ (stepC s p).2.length ≤ s.2.length + 1 := by
        unfold stepC
        split
        · exact ⟨by omega, by omega⟩
        · refine ⟨by simp, ?_⟩
          unfold addV
          split
          · unfold mkV; split <;> simp
          · simp
      simp only [List.foldl_cons, List.length_cons]
      omega
  have := main ps ([], [])
  simpa [runC] using this
theorem mkV_nodup {o : Int} {vd : List Int} (h : vd.Nodup) : (mkV o vd).Nodup := by
  unfold mkV
  split
  · exact h
  · rename_i n
    rw [List.nodup_append]
    exact ⟨h, by simp, fun a ha b hb => by rw [List.mem_singleton.mp hb]; rintro rfl; exact n ha⟩
theorem runC_nodup (ps : List Pp) : (runC ps).2.Nodup := by
  have main : ∀ (ps : List Pp) (s : List Pp × List Int), s.2.Nodup → (ps.foldl stepC s).2.Nodup := by
    intro ps
    induction ps with
    | nil => intro s h; exact h
    | cons p ps ih =>
      intro s h
      refine ih _ ?_
      unfold stepC
      split
      · exact h
      · show (addV p.2 s.2).Nodup
        unfold addV
        split
        · exact mkV_nodup h
        · exact h
  exact main ps _ List.nodup_nil
def byNum (ps : List Pp) : List Pp := ps.mergeSort fun a b => decide (a.1 ≤ b.1)
/-- the papers that count, by numbers -/
def counted (ps : List Pp) : List Pp := (runC (byNum ps).reverse).1.reverse
theorem key1_pp (p : Pp) : key1D (ppD p) = .int p.1 ∧ is1D (ppD p) = true := by
  obtain ⟨n, p⟩ := p
  cases p <;> exact ⟨rfl, rfl⟩
theorem sort_pp {o : Bool} {ps : List Pp} : fSortK false key1D is1D (.lst o (ps.map ppD)) = some (.lst true ((byNum ps).map ppD)) := by
  have c1 : cleanL (ps.map ppD) = true := cleanL_of ppD_clean _
  have c2 : (ps.map ppD).all is1D = true := by
    simp only [List.all_map, List.all_eq_true]
    exact fun p _ => (key1_pp p).2
  have e : (ps.map ppD).mergeSort (PySem.W.dataLe false key1D) = (byNum ps).map ppD := by
    unfold byNum
    rw [List.map_mergeSort (f := ppD) (r := fun a b : Pp => decide (a.1 ≤ b.1)) (s := PySem.W.dataLe false key1D) (l := ps)]
    intro a _ b _
    have h := congrFun (congrFun (PySem.W.dataLe_int (fun p : Pp => p.1)) a) b
    rw [← h]
    show PySem.W.dataLe false (fun p : Pp => PyData.int p.1) a b = PySem.W.dataLe false (fun p : Pp => key1D (ppD p)) a b
    have : (fun p : Pp => key1D (ppD p)) = fun p : Pp => PyData.int p.1 := funext fun p => (key1_pp p).1
    rw [this]
  simp only [fSortK, c1, c2, and_self, if_true, e]
theorem p2_void {n o : Int} : opIx (ppD (n, .void o)) (.int 2) = some (.int o) := rfl
theorem word_void {p : Pk} : p.word = RQ.wVoid ↔ ∃ o, p = .void o := by
  have h1 : RQ.wFin ≠ RQ.wVoid := by decide +kernel
  have h2 : RQ.wCode ≠ RQ.wVoid := by decide +kernel
  have h3 : RQ.wCost ≠ RQ.wVoid := by decide +kernel
  have h4 : RQ.wHelp ≠ RQ.wVoid := by decide +kernel
  have h5 : RQ.wOff ≠ RQ.wVoid := by decide +kernel
  cases p <;> simp [Pk.word, h1, h2, h3, h4, h5]
abbrev EC (o : Bool) (ps fd : List Pp) (vd : List Int) (j : Option D) : RL.Env := [some (.lst o (ps.map ppD)), some (.lst true (fd.map ppD)), some (dM vd), j]
theorem step_eq {o : Bool} {ps fd : List Pp} {vd : List Int} {p : Pp} (h1 : fd.length ≤ 1000) (h2 : vd.length ≤ 1000) (nd : vd.Nodup) : t_counting_5 (EC o ps fd vd (some (ppD p))) = .nx (EC o ps (stepC (fd, vd) p).1 (stepC (fd, vd) p).2 (some (ppD p))) := by
  have lt : fd.length < sizeLine := by unfold sizeLine; omega
  have i0 := RQ.p0 p
  have i1 := RQ.p1 p
  have ni := notin_M (n := p.1) (vd := vd)
  by_cases h : p.1 ∈ vd
  · rw [decide_eq_true h] at ni
    simp [t_counting_5, i0, ni, stepC, h]
  · rw [decide_eq_false h] at ni
    have e2 : t_counting_2 (EC o ps fd vd (some (ppD p))) = .nx (EC o ps (fd ++ [p]) vd (some (ppD p))) := by
      simp [t_counting_2, ppD_clean, lt]
    have e4 : t_counting_4 (EC o ps (fd ++ [p]) vd (some (ppD p))) = .nx (EC o ps (stepC (fd, vd) p).1 (stepC (fd, vd) p).2 (some (ppD p))) := by
      by_cases hw : p.2.word = RQ.wVoid
      · obtain ⟨n, k⟩ := p
        obtain ⟨ov, hk⟩ := word_void.mp hw
        simp only at hk
        subst hk
        have pm := put_M (o := ov) h2 nd
        simp [t_counting_4, t_counting_3, i1, hw, p2_void, pm, stepC, addV, h]
      · have : addV p.2 vd = vd := by
          unfold addV
          cases q : p.2 with
          | void ov => exact absurd (word_void.mpr ⟨ov, q⟩) hw
          | _ => rfl
        simp [t_counting_4, i1, hw, stepC, h, this]
    rw [t_counting_5, sIfS_ap]
    have : sTest (s2 oNotIn (sIx (sVarB 3) (sC (.int 0))) (sVarB 2)) (EC o ps fd vd (some (ppD p))) = .ok true := by simp [i0, ni]
    rw [this, stm_ok, if_pos rfl, sThen_ap, e2, andThen_nx, e4]
theorem counting_eq {o : Bool} {ps : List Pp} (hp : ps.length ≤ 500) : f_counting [.lst o (ps.map ppD)] = .ok (.lst true ((counted ps).map ppD)) [] := by
  have z0 : 0 ≤ sizeLine := by decide
  have sp := sort_pp (o := o) (ps := ps)
  have bl : (byNum ps).length = ps.length := List.length_mergeSort _
  have cl : ∀ xs : List Pp, cleanL (xs.map ppD) = true := fun xs => cleanL_of ppD_clean xs
  have e0 : t_counting_0 [some (.lst o (ps.map ppD)), none, none, none] = .nx [some (.lst o (ps.map ppD)), some (.lst true []), none, none] := by simp [t_counting_0, z0]
  have e1 : t_counting_1 [some (.lst o (ps.map ppD)), some (.lst true []), none, none] = .nx (EC o ps [] [] none) := by simp [t_counting_1, dM]
  obtain ⟨ρ', hf, j, rfl⟩ := for_nm (e := ppD) (t := 3) (S := t_counting_5) (fun pre ρ => ∃ j, ρ = EC o ps (runC pre).1 (runC pre).2 j) (xs := (byNum ps).reverse) (ρ := EC o ps [] [] none) ⟨none, rfl⟩ (by rintro p ρ ⟨j, rfl⟩; simp) (by
    rintro pre p q ρ hx ⟨j, rfl⟩
    have hl := congrArg List.length hx
    rw [List.length_reverse, bl, List.length_append, List.length_cons] at hl
    have rl := runC_len pre
    refine ⟨_, step_eq (p := p) (by omega) (by omega) (runC_nodup pre), some (ppD p), ?_⟩
    rw [runC_snoc])
  have e6 : t_counting_6 (EC o ps [] [] none) = .nx (EC o ps (runC (byNum ps).reverse).1 (runC (byNum ps).reverse).2 j) := by
    have r1 : opRev (.lst true ((byNum ps).map ppD)) = some (.lst true ((byNum ps).reverse.map ppD)) := by
      simp [opRev, cl, List.map_reverse]
    have e : sIter (s1 opRev (s1 (fSortK false key1D is1D) (sVarB 0))) (EC o ps [] [] none) = .ok ((byNum ps).reverse.map ppD) := by
      rw [sIter_ap, s1_ap, s1_ap, sVarB_ap (d := .lst o (ps.map ppD)) rfl]
      simp only [bind_ok, sp, opt_some, r1, iterD_l (cl _)]
    rw [t_counting_6, sFor_ap, e, stm_ok]
    exact hf
  have r2 : opRev (.lst true ((runC (byNum ps).reverse).1.map ppD)) = some (.lst true ((counted ps).map ppD)) := by
    simp [opRev, cl, List.map_reverse, counted]
  rw [f_counting, runDef_ap]
  unfold b_counting
  rw [sThen_ap, show entry 4 [D.lst o (ps.map ppD)] = [some (.lst o (ps.map ppD)), none, none, none] from rfl, e0, andThen_nx, sThen_ap, e1, andThen_nx, sThen_ap, e6, andThen_nx]
  simp [t_counting_7, r2]
end RK

/-! RL: what counts, in plain words. -/
namespace RK
open PySem RL RM RG RQ L2
/-- what some papers void -/
def voids (ps : List Pp) : List Int := ps.filterMap fun p => match p.2 with
  | .void o => some o
  | _ => none
theorem voids_mem {ps : List Pp} {o : Int} : o ∈ voids ps ↔ ∃ p ∈ ps, p.2 = .void o := by
  unfold voids
  rw [List.mem_filterMap]
  constructor
  · rintro ⟨p, h1, h2⟩
    refine ⟨p, h1, ?_⟩
    split at h2
    · rename_i o' e
      rw [e, Option.some.inj h2]
    · cases h2
  · rintro ⟨p, h1, h2⟩
    exact ⟨p, h1, by rw [h2]⟩
/-- unlike numbers, each void of a lesser one -/
structure Pps (ps : List Pp) : Prop where
  nd : (ps.map (·.1)).Nodup
  lt : ∀ p ∈ ps, ∀ o, p.2 = .void o → o < p.1
theorem mkV_mem {o n : Int} {vd : List Int} : n ∈ mkV o vd ↔ n ∈ vd ∨ n = o := by
  unfold mkV
  split
  · rename_i h
    constructor
    · exact .inl
    · rintro (z | rfl)
      · exact z
      · exact h
  · simp
theorem run_spec : ∀ (L : List Pp) (s : List Pp × List Int), L.Pairwise (fun a b => b.1 < a.1) → (∀ p ∈ L, ∀ o, p.2 = .void o → o < p.1) →
    (L.foldl stepC s).1 = s.1 ++ L.filter (fun p => !decide (p.1 ∈ (L.foldl stepC s).2)) ∧ ∀ n, n ∈ (L.foldl stepC s).2 ↔ n ∈ s.2 ∨ ∃ p ∈ L.filter (fun p => !decide (p.1 ∈ (L.foldl stepC s).2)), p.2 = .void n := by
  intro L
  induction L with
  | nil => intro s _ _; simp
  | cons p L ih =>
    intro s hp hv
    obtain ⟨h1, h2⟩ := List.pairwise_cons.mp hp
    obtain ⟨i1, i2⟩ := ih (stepC s p) h2 fun q hq => hv q (List.mem_cons_of_mem _ hq)
    rw [List.foldl_cons]
    generalize L.foldl stepC (stepC s p) = r at *
    have later : ∀ n, (∃ q ∈ L.filter (fun p => !decide (p.1 ∈ r.2)), q.2 = .void n) → n < p.1 := by
      rintro n ⟨q, hq, e⟩
      have hq := (List.mem_filter.mp hq).1
      have := h1 q hq
      have := hv q (List.mem_cons_of_mem _ hq) n e
      omega
    by_cases hc : p.1 ∈ s.2
    · have es : stepC s p = s := by unfold stepC; rw [if_pos hc]
      rw [es] at i1 i2
      have hr : p.1 ∈ r.2 := (i2 _).mpr (.inl hc)
      have ef : (p :: L).filter (fun p => !decide (p.1 ∈ r.2)) = L.filter (fun p => !decide (p.1 ∈ r.2)) := by
        rw [List.filter_cons]; simp [hr]
      rw [ef]
      exact ⟨i1, i2⟩
    · have es : stepC s p = (s.1 ++ [p], addV p.2 s.2) := by unfold stepC; rw [if_neg hc]
      rw [es] at i1 i2
      simp only at i1 i2
      have m2 : ∀ n, n ∈ addV p.2 s.2 ↔ n ∈ s.2 ∨ p.2 = .void n := by
        intro n
        unfold addV
        cases q : p.2 with
        | void o => simp only [mkV_mem, Pk.void.injEq]; constructor <;> (rintro (z | z); exact .inl z; exact .inr z.symm)
        | _ => simp
      have hr : p.1 ∉ r.2 := by
        intro z
        rcases (i2 _).mp z with z | z
        · rcases (m2 _).mp z with z | z
          · exact hc z
          · have := hv p List.mem_cons_self _ z
            omega
        · have := later _ z
          omega
      have ef : (p :: L).filter (fun p => !decide (p.1 ∈ r.2)) = p :: L.filter (fun p => !decide (p.1 ∈ r.2)) := by
        rw [List.filter_cons]; simp [hr]
      rw [ef]
      refine ⟨by rw [i1]; simp, fun n => ?_⟩
      rw [i2 n, m2 n]
      simp [or_assoc]
theorem byNum_perm (ps : List Pp) : (byNum ps).Perm ps := List.mergeSort_perm _ _
theorem byNum_le (ps : List Pp) : (byNum ps).Pairwise fun a b => a.1 ≤ b.1 := by
  have := List.pairwise_mergeSort (le := fun a b : Pp => decide (a.1 ≤ b.1)) (fun a b c h1 h2 => by simp only [decide_eq_true_eq] at *; omega) (fun a b => by simp only [Bool.or_eq_true, decide_eq_true_eq]; omega) ps
  exact this.imp fun h => by simpa using h
theorem byNum_lt {ps : List Pp} (h : (ps.map (·.1)).Nodup) : (byNum ps).Pairwise fun a b => a.1 < b.1 := by
  have nd : ((byNum ps).map (·.1)).Nodup := ((byNum_perm ps).map _).nodup_iff.mpr h
  have nd2 : (byNum ps).Pairwise fun a b => a.1 ≠ b.1 := List.pairwise_map.mp nd
  exact (byNum_le ps).imp₂ (fun a b h1 h2 => by omega) nd2
/-- those count that no counting void names -/
theorem counted_eq {ps : List Pp} (h : Pps ps) : counted ps = (byNum ps).filter fun p => !decide (p.1 ∈ voids (counted ps)) := by
  have hp : (byNum ps).reverse.Pairwise fun a b => b.1 < a.1 := List.pairwise_reverse.mpr (byNum_lt h.nd)
  have hv : ∀ p ∈ (byNum ps).reverse, ∀ o, p.2 = .void o → o < p.1 := fun p hp' => h.lt p ((byNum_perm ps).subset (List.mem_reverse.mp hp'))
  obtain ⟨h1, h2⟩ := run_spec (byNum ps).reverse ([], []) hp hv
  have e1 : counted ps = (byNum ps).filter fun p => !decide (p.1 ∈ (runC (byNum ps).reverse).2) := by
    unfold counted
    show ((List.foldl stepC ([], []) (byNum ps).reverse).1).reverse = _
    rw [h1, List.nil_append, List.filter_reverse, List.reverse_reverse]
    rfl
  have e2 : ∀ n, n ∈ (runC (byNum ps).reverse).2 ↔ n ∈ voids (counted ps) := by
    intro n
    rw [voids_mem, e1]
    have := h2 n
    simp only [List.not_mem_nil, false_or] at this
    show n ∈ (List.foldl stepC ([], []) (byNum ps).reverse).2 ↔ _
    rw [this, List.filter_reverse]
    constructor
    · rintro ⟨p, hp, e⟩; exact ⟨p, List.mem_reverse.mp hp, e⟩
    · rintro ⟨p, hp, e⟩; exact ⟨p, List.mem_reverse.mpr hp, e⟩
  conv => lhs; rw [e1]
  refine List.filter_congr fun p _ => ?_
  congr 1
  exact decide_eq_decide.mpr (e2 p.1)
theorem counted_sub (ps : List Pp) {p : Pp} (h : Pps ps) (hp : p ∈ counted ps) : p ∈ ps := by
  rw [counted_eq h] at hp
  exact (byNum_perm ps).subset (List.mem_filter.mp hp).1
theorem counted_lt {ps : List Pp} (h : Pps ps) : (counted ps).Pairwise fun a b => a.1 < b.1 := by
  rw [counted_eq h]
  exact (byNum_lt h.nd).sublist List.filter_sublist
theorem byNum_congr {ps qs : List Pp} (h : (ps.map (·.1)).Nodup) (p : ps.Perm qs) : byNum ps = byNum qs := by
  have pp : (byNum ps).Perm (byNum qs) := (byNum_perm ps).trans (p.trans (byNum_perm qs).symm)
  have h' : (qs.map (·.1)).Nodup := (p.map _).nodup_iff.mp h
  exact List.Perm.eq_of_pairwise (le := fun a b => a.1 < b.1) (fun a b _ _ h1 h2 => by omega) (byNum_lt h) (byNum_lt h') pp
theorem counted_congr {ps qs : List Pp} (h : (ps.map (·.1)).Nodup) (p : ps.Perm qs) : counted ps = counted qs := by
  unfold counted
  rw [byNum_congr h p]
theorem Pps.perm {ps qs : List Pp} (h : Pps ps) (p : ps.Perm qs) : Pps qs := ⟨(p.map _).nodup_iff.mp h.nd, fun x hx => h.lt x (p.symm.subset hx)⟩
theorem Pps.sub {ps qs : List Pp} (h : Pps ps) (s : qs.Sublist ps) : Pps qs := ⟨h.nd.sublist (s.map _), fun x hx => h.lt x (s.subset hx)⟩
theorem pps_of {m : Mt} {ps : List Pp} (nd : (ps.map (·.1)).Nodup) (ok : ∀ p ∈ ps, PpOk m p) : Pps ps := ⟨nd, fun p hp o e => by
  have := (ok p hp).2.2
  rw [e] at this
  exact this.2⟩
end RK

/-! RL, typed data: dicts with whole numbers as keys; papers shown and compared. -/
namespace RL
open PySem PySem.Spec PyProof.Rows L2
section
variable {α : Type} {k : α → Int} {v : α → D} {xs : List α} {o : Bool} {s : Int}
/-- a dict by its keys' numbers and its values -/
def dI (o : Bool) (k : α → Int) (v : α → D) (xs : List α) : D := .dct o (xs.map fun x => (Sum.inl (k x) : Key)) (xs.map v)
theorem dI_clean (h : ∀ x ∈ xs, (v x).clean = true) : (dI false k v xs).clean = true := by
  simp [dI, clean_of h]
theorem dI_frz_same (h : ∀ x ∈ xs, (v x).frz = v x) : (dI o k v xs).frz = dI false k v xs := by simp [dI, D.frz, frz_same h]
theorem mkD_I : ∀ {xs : List α} {ks : List Key} {ds : List D}, (∀ x ∈ xs, (Sum.inl (k x) : Key) ∉ ks) → (xs.map k).Nodup → mkD (xs.map fun x => .tup [.int (k x), v x]) ks ds = some (.dct true (ks ++ xs.map fun x => (Sum.inl (k x) : Key)) (ds ++ xs.map v))
  | [], ks, ds, _, _ => by simp [mkD]
  | x :: xs, ks, ds, h, nd => by
    obtain ⟨n1, n2⟩ := List.nodup_cons.mp nd
    have e := putKs_new (h x List.mem_cons_self)
    simp only [List.map_cons, mkD, RL.keyOf, Option.bind_some, putKs, putVs, e]
    rw [mkD_I (fun y hy z => ?_) n2]
    · simp
    · rcases List.mem_append.mp z with z | z
      · exact h y (List.mem_cons_of_mem _ hy) z
      · have : k y = k x := by simpa using z
        exact n1 (this ▸ List.mem_map_of_mem hy)
theorem dict_I (nd : (xs.map k).Nodup) : fDict (.lst o (xs.map fun x => .tup [.int (k x), v x])) = some (dI true k v xs) := by
  have := mkD_I (v := v) (ks := []) (ds := []) (fun x _ => by simp) nd
  simpa [fDict, dI] using this
theorem lookD_I : ∀ {xs : List α} {x : α}, x ∈ xs → (xs.map k).Nodup → lookD (xs.map fun x => (Sum.inl (k x) : Key)) (xs.map v) (Sum.inl (k x)) = some (v x)
  | [], _, h, _ => by simp at h
  | y :: ys, x, h, nd => by
    obtain ⟨n1, n2⟩ := List.nodup_cons.mp nd
    simp only [List.map_cons, lookD]
    rcases List.mem_cons.mp h with rfl | h
    · simp
    · have : k y ≠ k x := fun e => n1 (e ▸ List.mem_map_of_mem h)
      have : (Sum.inl (k y) : Key) ≠ .inl (k x) := fun e => this (Sum.inl.inj e)
      rw [if_neg this]
      exact lookD_I h n2
theorem ix_I {x : α} (h : x ∈ xs) (nd : (xs.map k).Nodup) : opIx (dI o k v xs) (.int (k x)) = some (v x) := lookD_I h nd
end
theorem inV_int {x : Int} {xs : List Int} : inV (.int x) (xs.map V.int) = decide (x ∈ xs) := by
  induction xs with
  | nil => rfl
  | cons y ys ih =>
    have e0 : eqV (.int y) (.int x) = decide (y = x) := by
      show (y == x) = _
      by_cases h : y = x
      · simp [h]
      · simp [h]
    have e : inV (.int x) ((y :: ys).map V.int) = (decide (y = x) || inV (.int x) (ys.map V.int)) := by
      show (eqV (.int y) (.int x) || _) = _
      rw [e0]; rfl
    rw [e, ih]
    by_cases h : y = x
    · simp [h]
    · have : ¬ x = y := fun e => h e.symm
      simp [h, this]
theorem in_ints {o : Bool} {x : Int} {xs : List Int} : oIn (.int x) (.lst o (xs.map .int)) = some (.bl (decide (x ∈ xs))) := by
  simp only [oIn, fIn, D.flat?, flats_int, inV_int, Option.map_some]
theorem notin_ints {o : Bool} {x : Int} {xs : List Int} : oNotIn (.int x) (.lst o (xs.map .int)) = some (.bl (!decide (x ∈ xs))) := by
  simp only [oNotIn, fIn, D.flat?, flats_int, inV_int, Option.map_some]
end RL
namespace RQ
open PySem RL RM RG RK L2
section
variable {m : Mt} {nb nr : Nat}
theorem Nx.le {n c : Nat} {x : Str} (h : Nx x) (hc : 62 ≤ c) : Sh n c (.str x) := (h.sh).le hc
theorem nx_word (p : Pk) : Nx p.word := by
  have h : ∀ x ∈ [wFin, wCode, wCost, wHelp, wOff, wVoid], PyData.strOk x = true ∧ x.length ≤ 6 := by decide +kernel
  have hx : p.word ∈ [wFin, wCode, wCost, wHelp, wOff, wVoid] := by cases p <;> simp [Pk.word]
  exact ⟨(h _ hx).1, (h _ hx).2⟩
theorem sh_code {n : Nat} {c : Str} (h : c ∈ codes) : Sh n 102 (.str c) := by
  have : ∀ c ∈ codes, PyData.strOk c = true ∧ c.length ≤ 10 := by decide +kernel
  exact sh_str (this c h).1 (this c h).2
theorem nx_sail (g : Good nb nr m) {f : Str} {b : BtT} (h : b ∈ sailsOf m f) : Nx b.1 := nx_of (g.bnm b (List.mem_filter.mp h).1)
theorem sh_pp (g : Good nb nr m) {p : Pp} (h : PpOk m p) {n : Nat} : Sh (n + 1) (5 * 1912 + 4) (ppD p) := by
  obtain ⟨i, k⟩ := p
  obtain ⟨h1, h2, h3⟩ := h
  simp only at h1 h2 h3
  have hi : Sh n 1910 (.int i) := sh_int (by omega) (by omega)
  have hw : ∀ x : Str, Nx x → Sh n 1910 (.str x) := fun x hx => Nx.le hx (by omega)
  have r1 : ∀ x ∈ m.rs, Sh n 1910 (.str x.1) := fun x hx => hw _ (nx_of (g.rnm x hx))
  have ww := hw _ (nx_word k)
  cases k with
  | fin r s t =>
    obtain ⟨x, hx, rfl, ⟨b, hb, rfl⟩, t1, t2⟩ := h3
    have o0 := (g.rok x hx)
    have ht : Sh n 1910 (.int t) := sh_int (by have := o0.2.1; omega) (by omega)
    refine sh_tup (k := 5) (fun d hd => ?_) (by simp)
    simp only [List.mem_cons, List.not_mem_nil, or_false] at hd
    rcases hd with rfl | rfl | rfl | rfl | rfl
    · exact hi
    · exact ww
    · exact r1 x hx
    · exact hw _ (nx_sail g hb)
    · exact ht
  | code r s c =>
    obtain ⟨x, hx, rfl, ⟨b, hb, rfl⟩, hc⟩ := h3
    refine sh_tup (k := 5) (fun d hd => ?_) (by simp)
    simp only [List.mem_cons, List.not_mem_nil, or_false] at hd
    rcases hd with rfl | rfl | rfl | rfl | rfl
    · exact hi
    · exact ww
    · exact r1 x hx
    · exact hw _ (nx_sail g hb)
    · exact (sh_code hc).le (by omega)
  | cost r s c =>
    obtain ⟨x, hx, rfl, ⟨b, hb, rfl⟩, hc, hc2⟩ := h3
    refine sh_tup (k := 5) (fun d hd => ?_) (by simp)
    simp only [List.mem_cons, List.not_mem_nil, or_false] at hd
    rcases hd with rfl | rfl | rfl | rfl | rfl
    · exact hi
    · exact ww
    · exact r1 x hx
    · exact hw _ (nx_sail g hb)
    · exact sh_int (by omega) (by omega)
  | help r s c =>
    obtain ⟨x, hx, rfl, ⟨b, hb, rfl⟩, hc⟩ := h3
    have n1 : Nx "every" := ⟨by decide +kernel, by decide +kernel⟩
    have n2 : Nx "ahead" := ⟨by decide +kernel, by decide +kernel⟩
    refine sh_tup (k := 5) (fun d hd => ?_) (by simp)
    simp only [List.mem_cons, List.not_mem_nil, or_false] at hd
    rcases hd with rfl | rfl | rfl | rfl | rfl
    · exact hi
    · exact ww
    · exact r1 x hx
    · exact hw _ (nx_sail g hb)
    · rcases hc with rfl | rfl
      · exact hw _ n1
      · exact hw _ n2
  | off r =>
    obtain ⟨x, hx, rfl⟩ := h3
    refine sh_tup (k := 5) (fun d hd => ?_) (by simp)
    simp only [List.mem_cons, List.not_mem_nil, or_false] at hd
    rcases hd with rfl | rfl | rfl
    · exact hi
    · exact ww
    · exact r1 x hx
  | void o =>
    obtain ⟨v1, v2⟩ := h3
    refine sh_tup (k := 5) (fun d hd => ?_) (by simp)
    simp only [List.mem_cons, List.not_mem_nil, or_false] at hd
    rcases hd with rfl | rfl | rfl
    · exact hi
    · exact ww
    · exact sh_int (by omega) (by omega)
/-- papers fit -/
theorem fit_pp (g : Good nb nr m) {p : Pp} (h : PpOk m p) {n : Nat} : fitN (n + 1) (ppD p) = true := by
  obtain ⟨i, k⟩ := p
  obtain ⟨h1, h2, h3⟩ := h
  have r1 : ∀ x ∈ m.rs, PyData.strOk x.1 = true := fun x hx => (nx_of (g.rnm x hx)).ok
  have ww := (nx_word k).ok
  have fi : ∀ (n : Nat) (i : Int), fitN n (.int i) = true := fun n i => by cases n <;> rfl
  have fs : ∀ (n : Nat) (x : Str), PyData.strOk x = true → fitN n (.str x) = true := fun n x h => by cases n <;> exact h
  have ht : ∀ (n : Nat) (ds : List D), (∀ d ∈ ds, fitN n d = true) → fitN (n + 1) (.tup ds) = true := fun n ds h => by simp only [fitN, List.all_eq_true]; exact h
  have cc : ∀ c ∈ codes, PyData.strOk c = true := by decide +kernel
  cases k with
  | fin r s t =>
    obtain ⟨x, hx, rfl, ⟨b, hb, rfl⟩, t1, t2⟩ := h3
    refine ht _ _ fun d hd => ?_
    simp only [List.mem_cons, List.not_mem_nil, or_false] at hd
    rcases hd with rfl | rfl | rfl | rfl | rfl
    · exact fi _ _
    · exact fs _ _ ww
    · exact fs _ _ (r1 x hx)
    · exact fs _ _ (nx_sail g hb).ok
    · exact fi _ _
  | code r s c =>
    obtain ⟨x, hx, rfl, ⟨b, hb, rfl⟩, hc⟩ := h3
    refine ht _ _ fun d hd => ?_
    simp only [List.mem_cons, List.not_mem_nil, or_false] at hd
    rcases hd with rfl | rfl | rfl | rfl | rfl
    · exact fi _ _
    · exact fs _ _ ww
    · exact fs _ _ (r1 x hx)
    · exact fs _ _ (nx_sail g hb).ok
    · exact fs _ _ (cc _ hc)
  | cost r s c =>
    obtain ⟨x, hx, rfl, ⟨b, hb, rfl⟩, hc, hc2⟩ := h3
    refine ht _ _ fun d hd => ?_
    simp only [List.mem_cons, List.not_mem_nil, or_false] at hd
    rcases hd with rfl | rfl | rfl | rfl | rfl
    · exact fi _ _
    · exact fs _ _ ww
    · exact fs _ _ (r1 x hx)
    · exact fs _ _ (nx_sail g hb).ok
    · exact fi _ _
  | help r s c =>
    obtain ⟨x, hx, rfl, ⟨b, hb, rfl⟩, hc⟩ := h3
    refine ht _ _ fun d hd => ?_
    simp only [List.mem_cons, List.not_mem_nil, or_false] at hd
    rcases hd with rfl | rfl | rfl | rfl | rfl
    · exact fi _ _
    · exact fs _ _ ww
    · exact fs _ _ (r1 x hx)
    · exact fs _ _ (nx_sail g hb).ok
    · rcases hc with rfl | rfl <;> exact fs _ _ (by decide +kernel)
  | off r =>
    obtain ⟨x, hx, rfl⟩ := h3
    refine ht _ _ fun d hd => ?_
    simp only [List.mem_cons, List.not_mem_nil, or_false] at hd
    rcases hd with rfl | rfl | rfl
    · exact fi _ _
    · exact fs _ _ ww
    · exact fs _ _ (r1 x hx)
  | void o =>
    refine ht _ _ fun d hd => ?_
    simp only [List.mem_cons, List.not_mem_nil, or_false] at hd
    rcases hd with rfl | rfl | rfl
    · exact fi _ _
    · exact fs _ _ ww
    · exact fi _ _
theorem fit_pps (g : Good nb nr m) {o : Bool} {ps : List Pp} (h : ∀ p ∈ ps, PpOk m p) : (D.lst o (ps.map ppD)).fit = true := by
  unfold D.fit
  rw [show (60 : Nat) = 59 + 1 from rfl]
  simp only [fitN, List.all_map, List.all_eq_true]
  exact fun p hp => fit_pp g (h p hp)
theorem rep_pps (g : Good nb nr m) {o : Bool} {ps : List Pp} (h : ∀ p ∈ ps, PpOk m p) (hl : ps.length ≤ 500) : fRepr [.lst o (ps.map ppD)] = some (.str (D.lst o (ps.map ppD)).py.shown) := by
  refine (sh_lst (n := 49) (c := 5 * 1912 + 4) (k := 500) (fun d hd => ?_) (by rw [List.length_map]; exact hl)).rep (by omega)
  obtain ⟨p, hp, rfl⟩ := List.mem_map.mp hd
  exact sh_pp g (h p hp)
theorem eq_pps (g : Good nb nr m) {o o' : Bool} {ps : List Pp} (h : ∀ p ∈ ps, PpOk m p) : opEq (.lst o (ps.map ppD)) (.lst o' (ps.map ppD)) = some (.bl true) := opEq_same (fit_pps g h) (fit_pps g h) rfl
theorem ne_pps (g : Good nb nr m) {o o' : Bool} {ps : List Pp} (h : ∀ p ∈ ps, PpOk m p) : opNe (.lst o (ps.map ppD)) (.lst o' (ps.map ppD)) = some (.bl false) := opNe_same (fit_pps g h) (fit_pps g h) rfl
theorem noFrz_pp (p : Pp) : noFrz (ppD p) = true := by
  obtain ⟨i, k⟩ := p
  cases k <;> simp [ppD, noFrz, noFrzL]
theorem noFrz_pps {ps : List Pp} : noFrz (.lst true (ps.map ppD)) = true := by
  have : ∀ ps : List Pp, noFrzL (ps.map ppD) = true := by
    intro ps
    induction ps with
    | nil => simp [noFrzL]
    | cons p ps ih => simp [noFrzL, noFrz_pp, ih]
  simp [noFrz, this]
theorem own_pp (p : Pp) : ownOk (ppD p) = true := by
  obtain ⟨i, k⟩ := p
  cases k <;> simp [ppD, ownOk, ownOkL]
theorem own_pps {o : Bool} {ps : List Pp} : ownOk (.lst o (ps.map ppD)) = true := by
  have : ∀ ps : List Pp, ownOkL (ps.map ppD) = true := by
    intro ps
    induction ps with
    | nil => simp [ownOkL]
    | cons p ps ih => simp [ownOkL, own_pp, ih]
  cases o <;> simp [ownOk, this]
end
end RQ

namespace Lk22
open PySem RL
def fuel : Nat := 100000
def t_counting_0 : RL.Env → SRes := (sAsg (.nm 1) false (sLst sNil))
def t_counting_1 : RL.Env → SRes := (sAsg (.nm 2) false (sC (.dct true [] [])))
def t_counting_2 : RL.Env → SRes := (sMut mAppend (plVar 1) (sCons (sVar 3) sNil))
def t_counting_3 : RL.Env → SRes := (sPutD true (plVar 2) (sIx (sVarB 3) (sC (.int 2))) (sC (.bl true)))
def t_counting_4 : RL.Env → SRes := (sIfS (sTest (s2 opEq (sIx (sVarB 3) (sC (.int 1))) (sC (.str "void")))) t_counting_3 sNext)
def t_counting_5 : RL.Env → SRes := (sIfS (sTest (s2 oNotIn (sIx (sVarB 3) (sC (.int 0))) (sVarB 2))) (sThen t_counting_2
    t_counting_4) sNext)
def t_counting_6 : RL.Env → SRes := (sFor (sIter (s1 opRev (s1 (fSortK false key1D is1D) (sVarB 0)))) (.nm 3)
    t_counting_5)
def t_counting_7 : RL.Env → SRes := (sRet (s1 opRev (sVarB 1)))
def b_counting : RL.Env → SRes := (sThen t_counting_0
    (sThen t_counting_1
    (sThen t_counting_6
    t_counting_7)))
def f_counting : List D → FR := runDef 4 [] b_counting
def t__law_cell_at_0 : RL.Env → SRes := (sRet (sCl (sIx (sVarB 0) (sVarB 1))))
def t__law_cell_at_1 : RL.Env → SRes := (sIfS (sTest (s2 opLt (sVarB 1) (sCall (on1 fLenX) (sCons (sVarB 0) sNil)))) t__law_cell_at_0 sNext)
def b__law_cell_at : RL.Env → SRes := (sThen t__law_cell_at_1
    (sRet (sC (.int 0))))
def f__law_cell_at : List D → FR := runDef 2 [] b__law_cell_at
def t__law_mixed_0 : RL.Env → SRes := (sAsg (.nm 2) true (s2 opMod (s2 opAdd (s2 opAdd (s2 opMul (sVarB 0) (sC (.int 48271))) (s2 opMul (sC (.int 7919)) (sVarB 1))) (sC (.int 11))) (sC (.int 1000003))))
def t__law_mixed_1 : RL.Env → SRes := (sRet (s2 opMod (s2 opMul (s2 opMod (s2 opMul (sVarB 2) (sVarB 2)) (sC (.int 1000003))) (sVarB 2)) (sC (.int 1000003))))
def b__law_mixed : RL.Env → SRes := (sThen t__law_mixed_0
    t__law_mixed_1)
def f__law_mixed : List D → FR := runDef 3 [] b__law_mixed
def l__law_entered_0 : RL.Env → Res D := (sLc (sIter (sCl (sIx (sVarB 0) (sC (.int 1))))) (.nm 2) [2] (sTest (s2 oIn (sIx (sVarB 1) (sC (.int 1))) (sTup (sCons (sC (.str "all")) (sCons (sCl (sIx (sVarB 2) (sC (.int 2)))) sNil))))) (sCl (sIx (sVarB 2) (sC (.int 0)))))
def b__law_entered : RL.Env → SRes := (sRet l__law_entered_0)
def f__law_entered : List D → FR := runDef 3 [] b__law_entered
def l__law_is_due_0 : RL.Env → Res D := (sLc (sIter (sVar 1)) (.nm 5) [5] (sTest (s2 opEq (sIx (sVarB 5) (sC (.int 1))) (sC (.str "void")))) (sCl (sIx (sVarB 5) (sC (.int 2)))))
def t__law_is_due_1 : RL.Env → SRes := (sAsg (.nm 2) true l__law_is_due_0)
def l__law_is_due_2 : RL.Env → Res D := (sLc (sIter (sVar 0)) (.nm 5) [5] (sTest (s2 oNotIn (sIx (sVarB 5) (sC (.int 0))) (sVarB 2))) (sCl (sIx (sVarB 5) (sC (.int 0)))))
def t__law_is_due_3 : RL.Env → SRes := (sAsg (.nm 3) true (sCall (on1 fSortI) (sCons l__law_is_due_2 sNil)))
def l__law_is_due_4 : RL.Env → Res D := (sLc (sIter (sVar 0)) (.nm 5) [5] sYes (sTup (sCons (sCl (sIx (sVarB 5) (sC (.int 0)))) (sCons (sVar 5) sNil))))
def t__law_is_due_5 : RL.Env → SRes := (sAsg (.nm 4) true (s1 fDict l__law_is_due_4))
def l__law_is_due_6 : RL.Env → Res D := (sLc (sIter (sVar 3)) (.nm 6) [6] sYes (sCl (sIx (sVarB 4) (sVarB 6))))
def t__law_is_due_7 : RL.Env → SRes := (sRet (sAnd (s1 (fIsTy "list") (sVarB 1)) (s2 opEq (sCall fRepr (sCons (sVarB 1) sNil)) (sCall fRepr (sCons l__law_is_due_6 sNil)))))
def b__law_is_due : RL.Env → SRes := (sThen t__law_is_due_1
    (sThen t__law_is_due_3
    (sThen t__law_is_due_5
    t__law_is_due_7)))
def f__law_is_due : List D → FR := runDef 7 [] b__law_is_due
def t__law_names_0 : RL.Env → SRes := (sAsg (.nm 2) true (sC (.str "abcdefghijklmnopqrstuvwxyz0123456789")))
def l__law_names_1 : RL.Env → Res D := (sLc (sI rng1 (sCons (sC (.int 6)) sNil)) (.nm 10) [10] sYes (sCl (sIx (sVarB 2) (s2 opMod (sCallF 2 f__law_mixed (sCons (sVar 0) (sCons (sVar 10) sNil))) (sC (.int 36))))))
def t__law_names_2 : RL.Env → SRes := (sAsg (.nm 3) true l__law_names_1)
def t__law_names_3 : RL.Env → SRes := (sAsg (.nm 4) true (s2 opMod (sCallF 2 f__law_mixed (sCons (sVar 0) (sCons (sC (.int 8)) sNil))) (sC (.int 6))))
def t__law_names_4 : RL.Env → SRes := (sAsg (.nm 5) true (s2 opAdd (s2 opAdd (sVarB 4) (sC (.int 1))) (s2 opMod (sCallF 2 f__law_mixed (sCons (sVar 0) (sCons (sC (.int 9)) sNil))) (s2 opSub (sC (.int 6)) (sVarB 4)))))
def t__law_names_5 : RL.Env → SRes := (sAsg (.nm 6) true (sIx (sLst (sCons (sC (.int 1)) (sCons (sC (.int 5)) (sCons (sC (.int 7)) (sCons (sC (.int 11)) (sCons (sC (.int 13)) (sCons (sC (.int 17)) sNil))))))) (s2 opMod (sCallF 2 f__law_mixed (sCons (sVar 0) (sCons (sC (.int 10)) sNil))) (sC (.int 6)))))
def t__law_names_6 : RL.Env → SRes := (sAsg (.nm 7) false (sLst sNil))
def t__law_names_7 : RL.Env → SRes := (sAsg (.nm 9) true (sCl (sIx (sVarB 2) (s2 opMod (s2 opAdd (sCallF 2 f__law_mixed (sCons (sVar 0) (sCons (sC (.int 11)) sNil))) (s2 opMul (sVarB 6) (sVarB 8))) (sC (.int 36))))))
def t__law_names_8 : RL.Env → SRes := (sMut mAppend (plVar 7) (sCons (sM1 fJoin (sC (.str "")) (s2 opAdd (s2 opAdd (sSl (sVarB 3) sPn (sPs (sVarB 4))) (sLst (sCons (sVar 9) sNil))) (sSl (sVarB 3) (sPs (s2 opAdd (sVarB 4) (sC (.int 1)))) (sPs (sVarB 5))))) sNil))
def k__law_names_9 : RL.Env → SRes := (sThen t__law_names_7
    t__law_names_8)
def t__law_names_9 : RL.Env → SRes := (sFor (sI rng1 (sCons (s2 opAdd (sVarB 1) (sC (.int 1))) sNil)) (.nm 8)
    k__law_names_9)
def l__law_names_10 : RL.Env → Res D := (sLc (sSeq (sVarB 7)) (.nm 11) [11] (sTest (s2 opNe (sVarB 11) (sC (.str "all")))) (sVar 11))
def t__law_names_11 : RL.Env → SRes := (sRet (sSl l__law_names_10 sPn (sPs (sVarB 1))))
def b__law_names : RL.Env → SRes := (sThen t__law_names_0
    (sThen t__law_names_2
    (sThen t__law_names_3
    (sThen t__law_names_4
    (sThen t__law_names_5
    (sThen t__law_names_6
    (sThen t__law_names_9
    t__law_names_11)))))))
def f__law_names : List D → FR := runDef 12 [] b__law_names
def t__law_handicap_0 : RL.Env → SRes := (sAsg (.nm 1) true (sIx (sLst (sCons (sC (.int 1000)) (sCons (s2 opAdd (sC (.int 1)) (s2 opMod (sCallF 2 f__law_mixed (sCons (sVar 0) (sCons (sC (.int 31)) sNil))) (sC (.int 5000)))) (sCons (s2 opAdd (sC (.int 900)) (s2 opMod (sCallF 2 f__law_mixed (sCons (sVar 0) (sCons (sC (.int 31)) sNil))) (sC (.int 200)))) sNil)))) (s2 opMod (sCallF 2 f__law_mixed (sCons (sVar 0) (sCons (sC (.int 32)) sNil))) (sC (.int 3)))))
def t__law_handicap_1 : RL.Env → SRes := (sAsg (.nm 2) true (sIx (sLst (sCons (sC (.str "level")) (sCons (sC (.str "factor")) (sCons (sC (.str "yard")) (sCons (sC (.str "mile")) sNil))))) (s2 opMod (sCallF 2 f__law_mixed (sCons (sVar 0) (sCons (sC (.int 30)) sNil))) (sC (.int 4)))))
def t__law_handicap_2 : RL.Env → SRes := (sRet (sIf (sTest (s2 opEq (sVarB 2) (sC (.str "level")))) (sTup (sCons (sVar 2) sNil)) (sTup (sCons (sVar 2) (sCons (sVar 1) sNil)))))
def b__law_handicap : RL.Env → SRes := (sThen t__law_handicap_0
    (sThen t__law_handicap_1
    t__law_handicap_2))
def f__law_handicap : List D → FR := runDef 3 [] b__law_handicap
def t__law_paper_0 : RL.Env → SRes := (sAsg (.nm 3) true (sCl (sIx (sVarB 1) (sC (.int 3)))))
def t__law_paper_1 : RL.Env → SRes := (sAsg (.nm 4) true (s2 opMod (sCallF 2 f__law_mixed (sCons (sVar 0) (sCons (sC (.int 100)) sNil))) (sC (.int 16))))
def t__law_paper_2 : RL.Env → SRes := (sRet (sTup (sCons (sVar 2) (sCons (sC (.str "void")) (sCons (s2 opAdd (sC (.int 1)) (s2 opMod (sCallF 2 f__law_mixed (sCons (sVar 0) (sCons (sC (.int 101)) sNil))) (sCall (on2 fMax2) (sCons (sC (.int 1)) (sCons (s2 opSub (sVarB 2) (sC (.int 1))) sNil))))) sNil)))))
def t__law_paper_3 : RL.Env → SRes := (sIfS (sOrT (sTest (s2 opEq (sVarB 4) (sC (.int 0)))) (sTest (s2 opEq (sVarB 3) (sTup sNil)))) t__law_paper_2 sNext)
def t__law_paper_4 : RL.Env → SRes := (sAsg (.nm 5) true (sCl (sIx (sVarB 3) (s2 opMod (sCallF 2 f__law_mixed (sCons (sVar 0) (sCons (sC (.int 102)) sNil))) (sCall (on1 fLenX) (sCons (sVarB 3) sNil))))))
def t__law_paper_5 : RL.Env → SRes := (sRet (sTup (sCons (sVar 2) (sCons (sC (.str "off")) (sCons (sCl (sIx (sVarB 5) (sC (.int 0)))) sNil)))))
def t__law_paper_6 : RL.Env → SRes := (sIfS (sAndT (sTest (s2 opEq (sVarB 4) (sC (.int 1)))) (sTest (s2 opEq (s2 opMod (sCallF 2 f__law_mixed (sCons (sVar 0) (sCons (sC (.int 103)) sNil))) (sC (.int 3))) (sC (.int 0))))) t__law_paper_5 sNext)
def t__law_paper_7 : RL.Env → SRes := (sAsg (.nm 6) true (sCallF 2 f__law_entered (sCons (sVar 1) (sCons (sVar 5) sNil))))
def t__law_paper_8 : RL.Env → SRes := (sAsg (.nm 7) true (sCl (sIx (sVarB 6) (s2 opMod (sCallF 2 f__law_mixed (sCons (sVar 0) (sCons (sC (.int 104)) sNil))) (sCall (on1 fLenX) (sCons (sVarB 6) sNil))))))
def t__law_paper_9 : RL.Env → SRes := (sRet (sTup (sCons (sVar 2) (sCons (sC (.str "cost")) (sCons (sCl (sIx (sVarB 5) (sC (.int 0)))) (sCons (sVar 7) (sCons (s2 opAdd (sC (.int 1)) (s2 opMod (sCallF 2 f__law_mixed (sCons (sVar 0) (sCons (sC (.int 105)) sNil))) (sC (.int 20)))) sNil)))))))
def t__law_paper_10 : RL.Env → SRes := (sIfS (sTest (s2 opEq (sVarB 4) (sC (.int 2)))) t__law_paper_9 sNext)
def t__law_paper_11 : RL.Env → SRes := (sRet (sTup (sCons (sVar 2) (sCons (sC (.str "help")) (sCons (sCl (sIx (sVarB 5) (sC (.int 0)))) (sCons (sVar 7) (sCons (sIx (sLst (sCons (sC (.str "every")) (sCons (sC (.str "ahead")) sNil))) (s2 opMod (sCallF 2 f__law_mixed (sCons (sVar 0) (sCons (sC (.int 106)) sNil))) (sC (.int 2)))) sNil)))))))
def t__law_paper_12 : RL.Env → SRes := (sIfS (sTest (s2 opEq (sVarB 4) (sC (.int 3)))) t__law_paper_11 sNext)
def t__law_paper_13 : RL.Env → SRes := (sAsg (.nm 10) true (sLst (sCons (sC (.str "away")) (sCons (sC (.str "unstarted")) (sCons (sC (.str "early")) (sCons (sC (.str "unfinished")) (sCons (sC (.str "retired")) (sCons (sC (.str "out")) (sCons (sC (.str "barred")) sNil)))))))))
def t__law_paper_14 : RL.Env → SRes := (sRet (sTup (sCons (sVar 2) (sCons (sC (.str "code")) (sCons (sCl (sIx (sVarB 5) (sC (.int 0)))) (sCons (sVar 7) (sCons (sCl (sIx (sVarB 10) (s2 opMod (sCallF 2 f__law_mixed (sCons (sVar 0) (sCons (sC (.int 107)) sNil))) (sC (.int 7))))) sNil)))))))
def t__law_paper_15 : RL.Env → SRes := (sIfS (sTest (s2 opLt (sVarB 4) (sC (.int 6)))) (sThen t__law_paper_13
    t__law_paper_14) sNext)
def t__law_paper_16 : RL.Env → SRes := (sAsg (.nm 8) true (s2 opMod (s2 opMul (sCallF 2 f__law_mixed (sCons (sVar 0) (sCons (sC (.int 108)) sNil))) (sC (.int 7))) (s2 opSub (sC (.int 360000)) (sIx (sVarB 5) (sC (.int 2))))))
def t__law_paper_17 : RL.Env → SRes := (sAsg (.nm 9) true (s2 opAdd (sIx (sVarB 5) (sC (.int 2))) (sIx (sLst (sCons (sVar 8) (sCons (sCall (on2 fMin2) (sCons (sVarB 8) (sCons (s2 opMod (sCallF 2 f__law_mixed (sCons (sVar 0) (sCons (sC (.int 109)) sNil))) (sC (.int 9))) sNil))) (sCons (sCall (on2 fMin2) (sCons (s2 opSub (sC (.int 359999)) (sIx (sVarB 5) (sC (.int 2)))) (sCons (sC (.int 600)) sNil))) sNil)))) (s2 opMod (sCallF 2 f__law_mixed (sCons (sVar 0) (sCons (sC (.int 110)) sNil))) (sC (.int 3))))))
def t__law_paper_18 : RL.Env → SRes := (sRet (sTup (sCons (sVar 2) (sCons (sC (.str "finish")) (sCons (sCl (sIx (sVarB 5) (sC (.int 0)))) (sCons (sVar 7) (sCons (sVar 9) sNil)))))))
def b__law_paper : RL.Env → SRes := (sThen t__law_paper_0
    (sThen t__law_paper_1
    (sThen t__law_paper_3
    (sThen t__law_paper_4
    (sThen t__law_paper_6
    (sThen t__law_paper_7
    (sThen t__law_paper_8
    (sThen t__law_paper_10
    (sThen t__law_paper_12
    (sThen t__law_paper_15
    (sThen t__law_paper_16
    (sThen t__law_paper_17
    t__law_paper_18))))))))))))
def f__law_paper : List D → FR := runDef 11 [] b__law_paper
def l__law_more_voids_0 : RL.Env → Res D := (sLc (sIter (sVar 1)) (.nm 5) [5] sYes (sCl (sIx (sVarB 5) (sC (.int 0)))))
def t__law_more_voids_1 : RL.Env → SRes := (sAsg (.nm 2) true l__law_more_voids_0)
def t__law_more_voids_2 : RL.Env → SRes := (sAsg (.nm 3) false (sLst sNil))
def l__law_more_voids_3 : RL.Env → Res D := (sLc (sIter (sVar 2)) (.nm 8) [8] (sTest (s2 opLt (sVarB 8) (sIx (sVarB 5) (sC (.int 0))))) (sVar 8))
def t__law_more_voids_4 : RL.Env → SRes := (sAsg (.nm 6) true l__law_more_voids_3)
def t__law_more_voids_5 : RL.Env → SRes := (sAsg (.nm 7) true (sCallF 2 f__law_mixed (sCons (sCl (sIx (sVarB 0) (sVarB 4))) (sCons (s2 opAdd (sC (.int 700)) (sVarB 4)) sNil))))
def t__law_more_voids_6 : RL.Env → SRes := (sAsg (.nm 5) true (sTup (sCons (sCl (sIx (sVarB 5) (sC (.int 0)))) (sCons (sC (.str "void")) (sCons (sIx (sCall (on1 fSortI) (sCons (sVarB 6) sNil)) (s2 opSub (s2 opSub (sCall (on1 fLenX) (sCons (sVarB 6) sNil)) (sC (.int 1))) (s2 opMod (s2 opFdiv (sVarB 7) (sC (.int 2))) (sCall (on2 fMin2) (sCons (sC (.int 4)) (sCons (sCall (on1 fLenX) (sCons (sVarB 6) sNil)) sNil)))))) sNil)))))
def t__law_more_voids_7 : RL.Env → SRes := (sIfS (sAndT (sTest (s2 opEq (s2 opMod (sVarB 7) (sC (.int 2))) (sC (.int 1)))) (sTest (s2 opNe (sVarB 6) (sLst sNil)))) t__law_more_voids_6 sNext)
def t__law_more_voids_8 : RL.Env → SRes := (sMut mAppend (plVar 3) (sCons (sVar 5) sNil))
def k__law_more_voids_9 : RL.Env → SRes := (sThen t__law_more_voids_4
    (sThen t__law_more_voids_5
    (sThen t__law_more_voids_7
    t__law_more_voids_8)))
def t__law_more_voids_9 : RL.Env → SRes := (sFor (sI enum1 (sCons (sVar 1) sNil)) (.tp [(.nm 4), (.nm 5)])
    k__law_more_voids_9)
def b__law_more_voids : RL.Env → SRes := (sThen t__law_more_voids_1
    (sThen t__law_more_voids_2
    (sThen t__law_more_voids_9
    (sRetV 3))))
def f__law_more_voids : List D → FR := runDef 9 [] b__law_more_voids
def t__law_right_0 : RL.Env → SRes := (sAsg (.nm 1) false (sCall (on1 fListX) (sCons (sVarB 0) sNil)))
def t__law_right_1 : RL.Env → SRes := (sAsg (.nm 2) false (sCallL 1 f_counting (sCons (sVarB 1) sNil)))
def t__law_right_2 : RL.Env → SRes := (sIfS (sOrT (sNot (sTest (sCallL 2 f__law_is_due (sCons (sVarB 0) (sCons (sVarB 2) sNil))))) (sTest (s2 opNe (sVarB 1) (sVarB 0)))) (sRet (sC (.bl false))) sNext)
def t__law_right_3 : RL.Env → SRes := (sAsg (.nm 3) true (sCall (on1 fListX) (sCons (sVarB 2) sNil)))
def t__law_right_4 : RL.Env → SRes := (sMut mClear (plVar 2) sNil)
def t__law_right_5 : RL.Env → SRes := (sMut mReverse (plVar 1) sNil)
def t__law_right_6 : RL.Env → SRes := (sRet (sAnd (s2 opEq (sCallF 1 f_counting (sCons (sVar 0) sNil)) (sVarB 3)) (s2 opEq (sCallL 1 f_counting (sCons (sVarB 1) sNil)) (sVarB 3))))
def b__law_right : RL.Env → SRes := (sThen t__law_right_0
    (sThen t__law_right_1
    (sThen t__law_right_2
    (sThen t__law_right_3
    (sThen t__law_right_4
    (sThen t__law_right_5
    t__law_right_6))))))
def f__law_right : List D → FR := runDef 4 [] b__law_right
def t__law_meeting_0 : RL.Env → SRes := (sAsg (.nm 3) true (sCallF 2 f__law_names (sCons (sCallF 2 f__law_mixed (sCons (sCallF 2 f__law_cell_at (sCons (sVar 0) (sCons (sC (.int 0)) sNil))) (sCons (sC (.int 1)) sNil))) (sCons (sC (.int 6)) sNil))))
def t__law_meeting_1 : RL.Env → SRes := (sAsg (.nm 4) false (sLst sNil))
def t__law_meeting_2 : RL.Env → SRes := (sMut mAppend (plVar 4) (sCons (sTup (sCons (sCl (sIx (sVarB 3) (sVarB 5))) (sCons (sCallF 1 f__law_handicap (sCons (sCallF 2 f__law_mixed (sCons (sCallF 2 f__law_cell_at (sCons (sVar 0) (sCons (sC (.int 0)) sNil))) (sCons (s2 opAdd (sC (.int 20)) (sVarB 5)) sNil))) sNil)) sNil))) sNil))
def t__law_meeting_3 : RL.Env → SRes := (sFor (sI rng1 (sCons (s2 opAdd (sC (.int 1)) (s2 opMod (sCallF 2 f__law_cell_at (sCons (sVar 0) (sCons (sC (.int 0)) sNil))) (sC (.int 6)))) sNil)) (.nm 5)
    t__law_meeting_2)
def t__law_meeting_4 : RL.Env → SRes := (sAsg (.nm 6) true (sCallF 2 f__law_names (sCons (sCallF 2 f__law_mixed (sCons (sCallF 2 f__law_cell_at (sCons (sVar 0) (sCons (sC (.int 1)) sNil))) (sCons (sC (.int 2)) sNil))) (sCons (sC (.int 24)) sNil))))
def t__law_meeting_5 : RL.Env → SRes := (sAsg (.nm 7) true (sSl (sCallF 2 f__law_names (sCons (sCallF 2 f__law_mixed (sCons (sCallF 2 f__law_cell_at (sCons (sVar 0) (sCons (sC (.int 2)) sNil))) (sCons (sC (.int 3)) sNil))) (sCons (sC (.int 3)) sNil))) sPn (sPs (s2 opAdd (sC (.int 1)) (s2 opMod (sCallF 2 f__law_cell_at (sCons (sVar 0) (sCons (sC (.int 2)) sNil))) (sC (.int 3)))))))
def t__law_meeting_6 : RL.Env → SRes := (sAsg (.nm 8) false (sLst sNil))
def t__law_meeting_7 : RL.Env → SRes := (sAsg (.nm 14) true (sCallF 2 f__law_mixed (sCons (sCallF 2 f__law_cell_at (sCons (sVar 0) (sCons (sC (.int 1)) sNil))) (sCons (s2 opAdd (sC (.int 40)) (sVarB 5)) sNil))))
def t__law_meeting_8 : RL.Env → SRes := (sMut mAppend (plVar 8) (sCons (sTup (sCons (sCl (sIx (sVarB 6) (sVarB 5))) (sCons (sCl (sIx (sIx (sVarB 4) (s2 opMod (sVarB 14) (sCall (on1 fLenX) (sCons (sVarB 4) sNil)))) (sC (.int 0)))) (sCons (sCl (sIx (sVarB 7) (s2 opMod (s2 opFdiv (sVarB 14) (sC (.int 6))) (sCall (on1 fLenX) (sCons (sVarB 7) sNil))))) sNil)))) sNil))
def k__law_meeting_9 : RL.Env → SRes := (sThen t__law_meeting_7
    t__law_meeting_8)
def t__law_meeting_9 : RL.Env → SRes := (sFor (sI rng1 (sCons (s2 opAdd (sC (.int 1)) (s2 opMod (sCallF 2 f__law_mixed (sCons (sCallF 2 f__law_cell_at (sCons (sVar 0) (sCons (sC (.int 1)) sNil))) (sCons (sC (.int 4)) sNil))) (sVarB 1))) sNil)) (.nm 5)
    k__law_meeting_9)
def t__law_meeting_10 : RL.Env → SRes := (sAsg (.nm 9) true (s2 opMod (s2 opFdiv (sCallF 2 f__law_cell_at (sCons (sVar 0) (sCons (sC (.int 2)) sNil))) (sC (.int 3))) (sC (.int 4))))
def l__law_meeting_11 : RL.Env → Res D := (sLc (sI rng1 (sCons (sVarB 9) sNil)) (.nm 5) [5] sYes (s2 opAdd (sC (.int 1)) (s2 opMod (sCallF 2 f__law_mixed (sCons (sCallF 2 f__law_cell_at (sCons (sVar 0) (sCons (sC (.int 2)) sNil))) (sCons (s2 opAdd (sC (.int 70)) (sVarB 5)) sNil))) (sIx (sLst (sCons (sC (.int 5)) (sCons (sC (.int 5)) (sCons (sC (.int 12)) sNil)))) (s2 opMod (sVarB 5) (sC (.int 3)))))))
def t__law_meeting_12 : RL.Env → SRes := (sAsg (.nm 10) true l__law_meeting_11)
def l__law_meeting_13 : RL.Env → Res D := (sLc (sSeq (sVarB 8)) (.nm 16) [16] sYes (sCl (sIx (sVarB 16) (sC (.int 2)))))
def t__law_meeting_14 : RL.Env → SRes := (sAsg (.nm 11) true (s2 opAdd l__law_meeting_13 (sLst (sCons (sC (.str "all")) sNil))))
def t__law_meeting_15 : RL.Env → SRes := (sAsg (.nm 12) false (sLst sNil))
def t__law_meeting_16 : RL.Env → SRes := (sAsg (.nm 13) true (sCallF 2 f__law_names (sCons (sCallF 2 f__law_mixed (sCons (sCallF 2 f__law_cell_at (sCons (sVar 0) (sCons (sC (.int 3)) sNil))) (sCons (sC (.int 5)) sNil))) (sCons (sC (.int 12)) sNil))))
def t__law_meeting_17 : RL.Env → SRes := (sAsg (.nm 14) true (sCallF 2 f__law_mixed (sCons (sCallF 2 f__law_cell_at (sCons (sVar 0) (sCons (sC (.int 3)) sNil))) (sCons (s2 opAdd (sC (.int 80)) (sVarB 5)) sNil))))
def t__law_meeting_18 : RL.Env → SRes := (sAsg (.nm 15) true (sIx (sLst (sCons (sC (.int 0)) (sCons (s2 opMod (sVarB 14) (sC (.int 40000))) (sCons (s2 opMod (sVarB 14) (sC (.int 359000))) sNil)))) (s2 opMod (sVarB 14) (sC (.int 3)))))
def t__law_meeting_19 : RL.Env → SRes := (sMut mAppend (plVar 12) (sCons (sTup (sCons (sCl (sIx (sVarB 13) (sVarB 5))) (sCons (sCl (sIx (sVarB 11) (s2 opMod (s2 opFdiv (sVarB 14) (sC (.int 3))) (sCall (on1 fLenX) (sCons (sVarB 11) sNil))))) (sCons (sVar 15) (sCons (s2 opMod (s2 opFdiv (sVarB 14) (sC (.int 100))) (sIx (sLst (sCons (sC (.int 1)) (sCons (sC (.int 300)) (sCons (sC (.int 10000)) sNil)))) (s2 opMod (sVarB 14) (sC (.int 3))))) sNil))))) sNil))
def k__law_meeting_21 : RL.Env → SRes := (sThen t__law_meeting_17
    (sThen t__law_meeting_18
    t__law_meeting_19))
def t__law_meeting_20 : RL.Env → SRes := (sFor (sI rng1 (sCons (s2 opMod (sCallF 2 f__law_mixed (sCons (sCallF 2 f__law_cell_at (sCons (sVar 0) (sCons (sC (.int 3)) sNil))) (sCons (sC (.int 6)) sNil))) (s2 opAdd (sVarB 2) (sC (.int 1)))) sNil)) (.nm 5)
    k__law_meeting_21)
def t__law_meeting_21 : RL.Env → SRes := (sRet (sTup (sCons (sCall (on1 fTux) (sCons (sVarB 4) sNil)) (sCons (sCall (on1 fTuple) (sCons (sVarB 8) sNil)) (sCons (sCall (on1 fTuple) (sCons (s1 fSortSet (sVarB 10)) sNil)) (sCons (sCall (on1 fTuple) (sCons (sVarB 12) sNil)) sNil))))))
def b__law_meeting : RL.Env → SRes := (sThen t__law_meeting_0
    (sThen t__law_meeting_1
    (sThen t__law_meeting_3
    (sThen t__law_meeting_4
    (sThen t__law_meeting_5
    (sThen t__law_meeting_6
    (sThen t__law_meeting_9
    (sThen t__law_meeting_10
    (sThen t__law_meeting_12
    (sThen t__law_meeting_14
    (sThen t__law_meeting_15
    (sThen t__law_meeting_16
    (sThen t__law_meeting_20
    t__law_meeting_21)))))))))))))
def f__law_meeting : List D → FR := runDef 17 [] b__law_meeting
def l__law_papers_0 : RL.Env → Res D := (sLc (sI rng1 (sCons (sCall (on1 fLenX) (sCons (sVarB 0) sNil)) sNil)) (.nm 5) [5] sYes (s2 opAdd (sC (.int 2)) (s2 opMod (s2 opAdd (sCallF 2 f__law_mixed (sCons (sVar 2) (sCons (sC (.int 120)) sNil))) (s2 opMul (sIx (sLst (sCons (sC (.int 1)) (sCons (sC (.int 4001)) (sCons (sC (.int 7919)) sNil)))) (s2 opMod (sVarB 2) (sC (.int 3)))) (sVarB 5))) (sC (.int 9998)))))
def t__law_papers_1 : RL.Env → SRes := (sAsg (.nm 3) true l__law_papers_0)
def t__law_papers_2 : RL.Env → SRes := (sAsg (.nm 4) false (sLst sNil))
def t__law_papers_3 : RL.Env → SRes := (sAsg (.nm 7) true (sCallF 3 f__law_paper (sCons (sCallF 2 f__law_mixed (sCons (sVar 6) (sCons (s2 opAdd (sC (.int 200)) (sVarB 5)) sNil))) (sCons (sVar 1) (sCons (sCl (sIx (sVarB 3) (sVarB 5))) sNil)))))
def l__law_papers_4 : RL.Env → Res D := (sLc (sIter (sVar 3)) (.nm 9) [9] (sTest (s2 opLt (sVarB 9) (sIx (sVarB 3) (sVarB 5)))) (sVar 9))
def t__law_papers_5 : RL.Env → SRes := (sAsg (.nm 8) true l__law_papers_4)
def t__law_papers_6 : RL.Env → SRes := (sAsg (.nm 7) true (sTup (sCons (sCl (sIx (sVarB 3) (sVarB 5))) (sCons (sC (.str "void")) (sCons (sCl (sIx (sVarB 8) (s2 opMod (sCallF 2 f__law_mixed (sCons (sVar 6) (sCons (s2 opAdd (sC (.int 500)) (sVarB 5)) sNil))) (sCall (on1 fLenX) (sCons (sVarB 8) sNil))))) sNil)))))
def t__law_papers_7 : RL.Env → SRes := (sIfS (sAndT (sTest (s2 opEq (sIx (sVarB 7) (sC (.int 1))) (sC (.str "void")))) (sAndT (sTest (s2 opNe (sVarB 8) (sLst sNil))) (sTest (s2 opGt (s2 opMod (sCallF 2 f__law_mixed (sCons (sVar 6) (sCons (s2 opAdd (sC (.int 300)) (sVarB 5)) sNil))) (sC (.int 4))) (sC (.int 0)))))) t__law_papers_6 sNext)
def t__law_papers_8 : RL.Env → SRes := (sMut mAppend (plVar 4) (sCons (sVar 7) sNil))
def k__law_papers_9 : RL.Env → SRes := (sThen t__law_papers_3
    (sThen t__law_papers_5
    (sThen t__law_papers_7
    t__law_papers_8)))
def t__law_papers_9 : RL.Env → SRes := (sFor (sI enum1 (sCons (sVar 0) sNil)) (.tp [(.nm 5), (.nm 6)])
    k__law_papers_9)
def b__law_papers : RL.Env → SRes := (sThen t__law_papers_1
    (sThen t__law_papers_2
    (sThen t__law_papers_9
    (sRetV 4))))
def f__law_papers : List D → FR := runDef 10 [] b__law_papers
def t_law_0 : RL.Env → SRes := (sAsg (.nm 1) true (sCallF 3 f__law_meeting (sCons (sVar 0) (sCons (sC (.int 8)) (sCons (sC (.int 4)) sNil)))))
def t_law_1 : RL.Env → SRes := (sAsg (.nm 2) true (sCall (on1 fListX) (sCons (sSl (sVarB 0) (sPs (sC (.int 4))) (sPs (sC (.int 63)))) sNil)))
def t_law_2 : RL.Env → SRes := (sAsg (.nm 3) true (sCallF 3 f__law_papers (sCons (sVar 2) (sCons (sVar 1) (sCons (sCallF 2 f__law_mixed (sCons (sCallF 2 f__law_cell_at (sCons (sVar 0) (sCons (sC (.int 4)) sNil))) (sCons (sC (.int 11)) sNil))) sNil)))))
def t_law_3 : RL.Env → SRes := (sAsg (.nm 3) true (sCallF 2 f__law_more_voids (sCons (sVar 2) (sCons (sVar 3) sNil))))
def t_law_4 : RL.Env → SRes := (sIfS (sTest (s2 opEq (s2 opMod (sCallF 2 f__law_cell_at (sCons (sVar 0) (sCons (sC (.int 4)) sNil))) (sC (.int 2))) (sC (.int 1)))) t_law_3 sNext)
def t_law_5 : RL.Env → SRes := (sAsg (.nm 5) true (s2 opMod (sCallF 2 f__law_mixed (sCons (sCallF 2 f__law_cell_at (sCons (sVar 0) (sCons (sC (.int 5)) sNil))) (sCons (s2 opAdd (sC (.int 20)) (sVarB 4)) sNil))) (s2 opAdd (sCall (on1 fLenX) (sCons (sVarB 3) sNil)) (sC (.int 1)))))
def t_law_6 : RL.Env → SRes := (sIfS (sOrT (sNot (sTest (sCallF 1 f__law_right (sCons (s2 opAdd (sSl (sVarB 3) (sPs (sVarB 5)) sPn) (sSl (sVarB 3) sPn (sPs (sVarB 5)))) sNil)))) (sNot (sTest (sCallF 1 f__law_right (sCons (s2 opAdd (s1 opRev (sSl (sVarB 3) sPn (sPs (sVarB 5)))) (sSl (sVarB 3) (sPs (sVarB 5)) sPn)) sNil))))) (sRet (sC (.bl false))) sNext)
def k_law_7 : RL.Env → SRes := (sThen t_law_5
    t_law_6)
def t_law_7 : RL.Env → SRes := (sFor (sI rng1 (sCons (sC (.int 6)) sNil)) (.nm 4)
    k_law_7)
def t_law_8 : RL.Env → SRes := (sIfS (sNot (sTest (sCallF 1 f__law_right (sCons (s2 opAdd (sSl (sVarB 3) sPn (sPs (sVarB 4))) (sSl (sVarB 3) (sPs (s2 opAdd (sVarB 4) (sC (.int 1)))) sPn)) sNil)))) (sRet (sC (.bl false))) sNext)
def t_law_9 : RL.Env → SRes := (sFor (sI rng1 (sCons (sCall (on2 fMin2) (sCons (sC (.int 10)) (sCons (sCall (on1 fLenX) (sCons (sVarB 3) sNil)) sNil))) sNil)) (.nm 4)
    t_law_8)
def t_law_10 : RL.Env → SRes := (sRet (s2 opEq (sCallF 1 f_counting (sCons (sLst sNil) sNil)) (sLst sNil)))
def b_law : RL.Env → SRes := (sThen t_law_0
    (sThen t_law_1
    (sThen t_law_2
    (sThen t_law_4
    (sThen t_law_7
    (sThen t_law_9
    t_law_10))))))
def f_law : List D → FR := runDef 6 [] b_law
end Lk22

/-! k22: just those count that no counting void names. -/
namespace Lk22
open PySem RL RM RG RQ RK L2
theorem same_meeting : f__law_meeting = RM.f__law_meeting := rfl
theorem same_mixed : f__law_mixed = RN.f__law_mixed := rfl
theorem same_cell_at : f__law_cell_at = RM.f__law_cell_at := rfl
theorem same_papers : f__law_papers = RQ.f__law_papers := rfl
theorem same_counting : f_counting = RK.f_counting := rfl
section
variable {m : Mt} {nb nr : Nat}
abbrev ps (o : Bool) (xs : List Pp) : D := .lst o (xs.map ppD)
def isVoid (p : Pp) : Bool := match p.2 with
  | .void _ => true
  | _ => false
def voidN (p : Pp) : D := match p.2 with
  | .void o => .int o
  | _ => .non
theorem void_map : ∀ xs : List Pp, (xs.filter isVoid).map voidN = (voids xs).map .int
  | [] => rfl
  | (n, k) :: xs => by
    have ih := void_map xs
    unfold voids at ih ⊢
    cases k with
    | void o =>
      rw [List.filter_cons_of_pos (show isVoid (n, .void o) = true from rfl)]
      simp [voidN, ih]
    | _ => simp [isVoid, ih]
theorem isVoid_word (p : Pp) : isVoid p = decide (p.2.word = RQ.wVoid) := by
  by_cases h : p.2.word = RQ.wVoid
  · obtain ⟨o, e⟩ := word_void.mp h
    simp [isVoid, e, Pk.word]
  · rw [decide_eq_false h]
    unfold isVoid
    split
    · rename_i o e
      exact absurd (word_void.mpr ⟨o, e⟩) h
    · rfl
theorem cl (xs : List Pp) : cleanL (xs.map ppD) = true := cleanL_of ppD_clean xs
theorem fz (xs : List Pp) : frzL (xs.map ppD) = xs.map ppD := frzL_of ppD_frz xs
theorem frz_ints (xs : List Int) : frzL (xs.map D.int) = xs.map D.int := frzL_of (fun _ => rfl) xs
theorem cl_ints (xs : List Int) : cleanL (xs.map D.int) = true := cleanL_of (fun _ => rfl) xs
theorem due_eq (g : Good nb nr m) {xs : List Pp} (h : Pps xs) (ok : ∀ p ∈ xs, PpOk m p) (hl : xs.length ≤ 500) : f__law_is_due [ps false xs, ps false (counted xs)] = .ok (.bl true) [] := by
  have h2 : 2 ≤ sizeLine := by decide
  have cm : ∀ p ∈ counted xs, p ∈ xs := fun p hp => counted_sub xs h hp
  have cok : ∀ p ∈ counted xs, PpOk m p := fun p hp => ok p (cm p hp)
  have clen : (counted xs).length ≤ xs.length := by
    rw [counted_eq h]
    exact Nat.le_trans (List.length_filter_le _ _) (Nat.le_of_eq (List.length_mergeSort _))
  have l0 : l__law_is_due_0 [some (ps false xs), some (ps false (counted xs)), none, none, none, none, none] = .ok (.lst true ((voids (counted xs)).map .int)) := by
    rw [← void_map]
    refine lc_fl (e := ppD) (by omega) (by simp [cl]) fun p hp => ?_
    have i1 := RQ.p1 p
    rw [isVoid_word]
    by_cases hw : p.2.word = RQ.wVoid
    · obtain ⟨o, e⟩ := word_void.mp hw
      have i2 : opIx (ppD p) (.int 2) = some (.int o) := by
        obtain ⟨n, k⟩ := p
        simp only at e
        subst e
        rfl
      have ev : voidN p = .int o := by simp [voidN, e]
      simp [lcOne, wipeE, i1, hw, i2, ev]
    · simp [lcOne, wipeE, i1, hw]
  have l2 : l__law_is_due_2 [some (ps false xs), some (ps false (counted xs)), some (.lst false ((voids (counted xs)).map .int)), none, none, none, none] = .ok (.lst true (((xs.filter fun p => !decide (p.1 ∈ voids (counted xs))).map (·.1)).map .int)) := by
    rw [List.map_map]
    refine lc_fl (e := ppD) (g := D.int ∘ fun p : Pp => p.1) (by omega) (by simp [cl]) fun p hp => ?_
    have i0 := RQ.p0 p
    have ni := notin_ints (o := false) (x := p.1) (xs := voids (counted xs))
    by_cases hv : p.1 ∈ voids (counted xs)
    · simp [lcOne, wipeE, i0, ni, hv]
    · simp [lcOne, wipeE, i0, ni, hv]
  have nums : upI ((xs.filter fun p => !decide (p.1 ∈ voids (counted xs))).map (·.1)) = (counted xs).map (·.1) := by
    refine up_eq ((upI_perm _).trans ?_) (upI_up _) ?_
    · conv => rhs; rw [counted_eq h]
      exact (((byNum_perm xs).symm.filter _).map _)
    · exact List.pairwise_map.mpr ((counted_lt h).imp fun h => by omega)
  have l4 : l__law_is_due_4 [some (ps false xs), some (ps false (counted xs)), some (.lst false ((voids (counted xs)).map .int)), some (.lst false (((counted xs).map (·.1)).map .int)), none, none, none] = .ok (.lst true (xs.map fun p => .tup [.int p.1, ppD p])) := by
    refine lc_map (e := ppD) (by omega) (by simp [cl]) fun p hp => ?_
    have i0 := RQ.p0 p
    simp [lcOne, wipeE, i0, ppD_clean, h2]
  have dd : fDict (.lst true (xs.map fun p => .tup [.int p.1, ppD p])) = some (dI true (fun p : Pp => p.1) ppD xs) := dict_I h.nd
  have df : (dI true (fun p : Pp => p.1) ppD xs).frz = dI false (fun p : Pp => p.1) ppD xs := dI_frz_same fun x _ => ppD_frz x
  have l6 : l__law_is_due_6 [some (ps false xs), some (ps false (counted xs)), some (.lst false ((voids (counted xs)).map .int)), some (.lst false (((counted xs).map (·.1)).map .int)), some (dI false (fun p : Pp => p.1) ppD xs), none, none] = .ok (.lst true ((counted xs).map ppD)) := by
    refine lc_map (e := fun p : Pp => D.int p.1) (by omega) ?_ fun p hp => ?_
    · have e : sIter (sVar 3) [some (ps false xs), some (ps false (counted xs)), some (.lst false ((voids (counted xs)).map .int)), some (.lst false (((counted xs).map (·.1)).map .int)), some (dI false (fun p : Pp => p.1) ppD xs), none, none] = .ok (((counted xs).map (·.1)).map .int) := by
        simp [cl_ints, -List.map_map]
      rw [e, List.map_map]
      rfl
    · have i := ix_I (k := fun p : Pp => p.1) (v := ppD) (o := false) (cm p hp) h.nd
      simp [lcOne, wipeE, i, ppD_clean]
  have r1 := rep_pps g (o := false) cok (by omega)
  have r2 := rep_pps g (o := true) cok (by omega)
  have e1 : t__law_is_due_1 [some (ps false xs), some (ps false (counted xs)), none, none, none, none, none] = .nx [some (ps false xs), some (ps false (counted xs)), some (.lst false ((voids (counted xs)).map .int)), none, none, none, none] := by
    simp [t__law_is_due_1, l0, frz_ints]
  have e3 : t__law_is_due_3 [some (ps false xs), some (ps false (counted xs)), some (.lst false ((voids (counted xs)).map .int)), none, none, none, none] = .nx [some (ps false xs), some (ps false (counted xs)), some (.lst false ((voids (counted xs)).map .int)), some (.lst false (((counted xs).map (·.1)).map .int)), none, none, none] := by
    simp only [t__law_is_due_3, sAsg_ap, sCall_ap, sCons_ap, sNil_ap, l2, bind_ok, on1_ap, fSortI, intsD_map, Option.map_some, opt_some, nums]
    simp [frz_ints, -List.map_map]
  have e5 : t__law_is_due_5 [some (ps false xs), some (ps false (counted xs)), some (.lst false ((voids (counted xs)).map .int)), some (.lst false (((counted xs).map (·.1)).map .int)), none, none, none] = .nx [some (ps false xs), some (ps false (counted xs)), some (.lst false ((voids (counted xs)).map .int)), some (.lst false (((counted xs).map (·.1)).map .int)), some (dI false (fun p : Pp => p.1) ppD xs), none, none] := by
    simp [t__law_is_due_5, l4, dd, df, -List.map_map]
  rw [f__law_is_due, runDef_ap]
  unfold b__law_is_due
  rw [sThen_ap, show entry 7 [ps false xs, ps false (counted xs)] = [some (ps false xs), some (ps false (counted xs)), none, none, none, none, none] from rfl, e1, andThen_nx, sThen_ap, e3, andThen_nx, sThen_ap, e5, andThen_nx]
  have ty : fIsTy "list" (ps false (counted xs)) = some (.bl true) := rfl
  have p0 : (D.lst false ((counted xs).map ppD)).py = (D.lst true ((counted xs).map ppD)).py := rfl
  simp [t__law_is_due_7, l6, ty, r1, r2, p0, -List.map_map]
theorem counted_ok {xs : List Pp} (h : Pps xs) (ok : ∀ p ∈ xs, PpOk m p) : ∀ p ∈ counted xs, PpOk m p := fun p hp => ok p (counted_sub xs h hp)
/-- the count of frozen papers, answered -/
theorem right_eq (g : Good nb nr m) {xs : List Pp} (h : Pps xs) (ok : ∀ p ∈ xs, PpOk m p) (hl : xs.length ≤ 500) : f__law_right [ps false xs] = .ok (.bl true) [] := by
  have z0 : 0 ≤ sizeLine := by decide
  have ce := counting_eq (o := false) hl
  rw [← same_counting] at ce
  have du := due_eq g h ok hl
  have nz : noFrz (ps true (counted xs)) = true := noFrz_pps
  have ow : ∀ o (ys : List Pp), ownOk (ps o ys) = true := fun o ys => own_pps
  have lx : xs.length ≤ sizeLine := by unfold sizeLine; omega
  have cle : (counted xs).length ≤ xs.length := by
    rw [counted_eq h]
    exact Nat.le_trans (List.length_filter_le _ _) (Nat.le_of_eq (List.length_mergeSort _))
  have lc : (counted xs).length ≤ sizeLine := by omega
  have er : counted xs.reverse = counted xs := (counted_congr h.nd xs.reverse_perm.symm).symm
  have ce2 := counting_eq (o := false) (ps := xs.reverse) (by rw [List.length_reverse]; exact hl)
  rw [← same_counting, er] at ce2
  have k1 : sCallL 1 f_counting (sCons (sVarB 1) sNil) [some (ps false xs), some (ps true xs), none, none] = .ok (ps true (counted xs)) :=
    sCallL_ap (ds := [ps true xs]) (os := []) rfl rfl (by simp [ownOkL, ow]) (by simpa [frzL, D.frz, fz] using ce) nz
  have k2 : sCallL 2 f__law_is_due (sCons (sVarB 0) (sCons (sVarB 2) sNil)) [some (ps false xs), some (ps true xs), some (ps true (counted xs)), none] = .ok (.bl true) :=
    sCallL_ap (ds := [ps false xs, ps true (counted xs)]) (os := []) rfl rfl (by simp [ownOkL, ow]) (by simpa [frzL, D.frz, fz] using du) rfl
  have k3 : ∀ d, sCallL 1 f_counting (sCons (sVarB 1) sNil) [some (ps false xs), some (ps true xs.reverse), some (.lst true []), some d] = .ok (ps true (counted xs)) := fun d =>
    sCallL_ap (ds := [ps true xs.reverse]) (os := []) rfl rfl (by simp [ownOkL, ow]) (by show f_counting [.lst false (frzL (xs.reverse.map ppD))] = _; rw [fz]; exact ce2) nz
  have ne := ne_pps g (o := true) (o' := false) ok
  have e0 : t__law_right_0 [some (ps false xs), none, none, none] = .nx [some (ps false xs), some (ps true xs), none, none] := by
    simp [t__law_right_0, fListX, fList, cl, lx]
  have e1 : t__law_right_1 [some (ps false xs), some (ps true xs), none, none] = .nx [some (ps false xs), some (ps true xs), some (ps true (counted xs)), none] := by
    simp [t__law_right_1, k1]
  have e2 : t__law_right_2 [some (ps false xs), some (ps true xs), some (ps true (counted xs)), none] = .nx [some (ps false xs), some (ps true xs), some (ps true (counted xs)), none] := by
    simp [t__law_right_2, k2, ne]
  have e3 : t__law_right_3 [some (ps false xs), some (ps true xs), some (ps true (counted xs)), none] = .nx [some (ps false xs), some (ps true xs), some (ps true (counted xs)), some (ps false (counted xs))] := by
    simp [t__law_right_3, fListX, fList, cl, lc, fz]
  have e4 : t__law_right_4 [some (ps false xs), some (ps true xs), some (ps true (counted xs)), some (ps false (counted xs))] = .nx [some (ps false xs), some (ps true xs), some (.lst true []), some (ps false (counted xs))] := by
    simp [t__law_right_4, mClear, cl]
  have e5 : t__law_right_5 [some (ps false xs), some (ps true xs), some (.lst true []), some (ps false (counted xs))] = .nx [some (ps false xs), some (ps true xs.reverse), some (.lst true []), some (ps false (counted xs))] := by
    simp [t__law_right_5, mReverse, cl, List.map_reverse]
  have eq := eq_pps g (o := true) (o' := false) (counted_ok h ok)
  rw [f__law_right, runDef_ap]
  unfold b__law_right
  rw [sThen_ap, show entry 4 [ps false xs] = [some (ps false xs), none, none, none] from rfl, e0, andThen_nx, sThen_ap, e1, andThen_nx, sThen_ap, e2, andThen_nx, sThen_ap, e3, andThen_nx, sThen_ap, e4, andThen_nx, sThen_ap, e5, andThen_nx]
  simp [t__law_right_6, cl, fz, ce, eq, k3]
end
end Lk22

/-! k22: more voids. -/
namespace Lk22
open PySem RL RM RG RQ RK L2
section
variable {m : Mt} {nb nr : Nat}
abbrev EM (cs : List Int) (xs : List Pp) (nums : List Int) (fd : List Pp) (j p l x : Option D) : RL.Env := [some (.lst false (cs.map .int)), some (ps false xs), some (.lst false (nums.map .int)), some (ps true fd), j, p, l, x, none]
theorem more_step {cs : List Int} {xs fd : List Pp} {nums : List Int} {j : Nat} {p : Pp} {l0 x0 : Option D} (hp : PpOk m p) (hn : ∀ x ∈ nums, 1 ≤ x) (hj : j < cs.length) (hj2 : j ≤ 1000) (hl : nums.length ≤ 1000) (hf : fd.length ≤ 1000) :
    ∃ (q : Pk) (p' l' x' : Option D), k__law_more_voids_9 (EM cs xs nums fd (some (.int (j : Int))) (some (ppD p)) l0 x0) = .nx (EM cs xs nums (fd ++ [(p.1, q)]) (some (.int (j : Int))) p' l' x') ∧ PpOk m (p.1, q) := by
  have h3 : 3 ≤ sizeLine := by decide
  have z0 : 0 ≤ sizeLine := by decide
  have lt : fd.length < sizeLine := by unfold sizeLine; omega
  have i0 := RQ.p0 p
  obtain ⟨c, hc⟩ : ∃ c, cs[j]? = some c := ⟨_, List.getElem?_eq_getElem hj⟩
  have ixc : opIx (.lst false (cs.map .int)) (.int (j : Int)) = some (.int c) := by
    show atI (cs.map D.int) (j : Int) = _
    rw [RL.atI_nat, List.getElem?_map, hc]; rfl
  obtain ⟨v, mv⟩ := mixE c (k := 700 + (j : Int)) (by omega)
  rw [← same_mixed] at mv
  have l3 : l__law_more_voids_3 (EM cs xs nums fd (some (.int (j : Int))) (some (ppD p)) l0 x0) = .ok (.lst true ((nums.filter fun x => decide (x < p.1)).map .int)) := by
    refine lc_fl (e := D.int) (by omega) (by simp) fun x _ => ?_
    simp [lcOne, wipeE, i0, -opIx_l]
    split <;> simp
  have e4 : t__law_more_voids_4 (EM cs xs nums fd (some (.int (j : Int))) (some (ppD p)) l0 x0) = .nx (EM cs xs nums fd (some (.int (j : Int))) (some (ppD p)) (some (.lst false ((nums.filter fun x => decide (x < p.1)).map .int))) x0) := by
    simp [t__law_more_voids_4, l3]
  have less : ∀ x ∈ nums.filter (fun x => decide (x < p.1)), 1 ≤ x ∧ x < p.1 := fun x h => ⟨hn x (List.mem_filter.mp h).1, by simpa using (List.mem_filter.mp h).2⟩
  generalize nums.filter (fun x => decide (x < p.1)) = ls at *
  have e5 : t__law_more_voids_5 (EM cs xs nums fd (some (.int (j : Int))) (some (ppD p)) (some (.lst false (ls.map .int))) x0) = .nx (EM cs xs nums fd (some (.int (j : Int))) (some (ppD p)) (some (.lst false (ls.map .int))) (some (.int v))) := by
    simp [t__law_more_voids_5, ixc, mv, -opIx_l]
  have e8 : ∀ q : Pp, t__law_more_voids_8 (EM cs xs nums fd (some (.int (j : Int))) (some (ppD q)) (some (.lst false (ls.map .int))) (some (.int v))) = .nx (EM cs xs nums (fd ++ [q]) (some (.int (j : Int))) (some (ppD q)) (some (.lst false (ls.map .int))) (some (.int v))) := fun q => by
    simp [t__law_more_voids_8, ppD_clean, lt]
  have q2 := mod_pos' (i := v) (j := 2) (by decide)
  have nn := ne_nil_ints (o := false) (o' := true) (xs := ls)
  generalize hw : v % 2 = w at *
  by_cases hcnd : w = 1 ∧ ls ≠ []
  · obtain ⟨c1, c2⟩ := hcnd
    have lp : 0 < ls.length := List.length_pos_iff.mpr c2
    have f2 := fdiv_pos' (i := v) (j := 2) (by decide) (by decide)
    generalize v / 2 = v2 at *
    have mn : fMin2 (.int 4) (.int (ls.length : Int)) = some (.int (if (ls.length : Int) < 4 then (ls.length : Int) else 4)) := rfl
    have mb : 0 < (if (ls.length : Int) < 4 then (ls.length : Int) else 4) ∧ (if (ls.length : Int) < 4 then (ls.length : Int) else 4) ≤ (ls.length : Int) := by split <;> omega
    generalize (if (ls.length : Int) < 4 then (ls.length : Int) else 4) = mm at *
    have qm := mod_pos' (i := v2) (j := mm) mb.1
    have bm := RN.mod_in v2 (b := mm) mb.1
    generalize v2 % mm = r at *
    obtain ⟨i, hi⟩ := Int.eq_ofNat_of_zero_le (show 0 ≤ (ls.length : Int) - 1 - r by omega)
    have ul : (upI ls).length = ls.length := (upI_perm ls).length_eq
    have hi2 : i < (upI ls).length := by omega
    obtain ⟨o, ho⟩ : ∃ o, (upI ls)[i]? = some o := ⟨_, List.getElem?_eq_getElem hi2⟩
    have om : o ∈ ls := (upI_perm ls).subset (List.mem_of_getElem? ho)
    have ixo : opIx (.lst true ((upI ls).map .int)) (.int ((ls.length : Int) - 1 - r)) = some (.int o) := by
      rw [hi]
      show atI ((upI ls).map D.int) (i : Int) = _
      rw [RL.atI_nat, List.getElem?_map, ho]; rfl
    have so : fSortI (.lst false (ls.map .int)) = some (.lst true ((upI ls).map .int)) := by simp only [fSortI, intsD_map, Option.map_some]
    have e6 : t__law_more_voids_6 (EM cs xs nums fd (some (.int (j : Int))) (some (ppD p)) (some (.lst false (ls.map .int))) (some (.int v))) = .nx (EM cs xs nums fd (some (.int (j : Int))) (some (ppD (p.1, .void o))) (some (.lst false (ls.map .int))) (some (.int v))) := by
      have pv : ppD (p.1, .void o) = .tup [.int p.1, .str "void", .int o] := rfl
      rw [pv]
      simp [t__law_more_voids_6, i0, so, f2, mn, qm, ixo, h3, -opIx_l]
    have e7 : t__law_more_voids_7 (EM cs xs nums fd (some (.int (j : Int))) (some (ppD p)) (some (.lst false (ls.map .int))) (some (.int v))) = .nx (EM cs xs nums fd (some (.int (j : Int))) (some (ppD (p.1, .void o))) (some (.lst false (ls.map .int))) (some (.int v))) := by
      rw [t__law_more_voids_7, sIfS_ap]
      have : (sAndT (sTest (s2 opEq (s2 opMod (sVarB 7) (sC (.int 2))) (sC (.int 1)))) (sTest (s2 opNe (sVarB 6) (sLst sNil)))) (EM cs xs nums fd (some (.int (j : Int))) (some (ppD p)) (some (.lst false (ls.map .int))) (some (.int v))) = .ok true := by
        simp [q2, c1, nn, c2, z0]
      rw [this, stm_ok, if_pos rfl, e6]
    refine ⟨.void o, _, _, _, by rw [k__law_more_voids_9, sThen_ap, e4, andThen_nx, sThen_ap, e5, andThen_nx, sThen_ap, e7, andThen_nx, e8], ?_⟩
    have := less o om
    exact ⟨hp.1, hp.2.1, this.1, this.2⟩
  · have e7 : t__law_more_voids_7 (EM cs xs nums fd (some (.int (j : Int))) (some (ppD p)) (some (.lst false (ls.map .int))) (some (.int v))) = .nx (EM cs xs nums fd (some (.int (j : Int))) (some (ppD p)) (some (.lst false (ls.map .int))) (some (.int v))) := by
      rw [t__law_more_voids_7, sIfS_ap]
      have : (sAndT (sTest (s2 opEq (s2 opMod (sVarB 7) (sC (.int 2))) (sC (.int 1)))) (sTest (s2 opNe (sVarB 6) (sLst sNil)))) (EM cs xs nums fd (some (.int (j : Int))) (some (ppD p)) (some (.lst false (ls.map .int))) (some (.int v))) = .ok false := by
        by_cases c1 : w = 1
        · have c2 : ls = [] := Classical.byContradiction fun z => hcnd ⟨c1, z⟩
          have nn' := ne_nil_ints (o := false) (o' := true) (xs := [])
          simp only [List.map_nil] at nn'
          simp [q2, c1, c2, nn', z0]
        · simp [q2, c1]
      rw [this, stm_ok, if_neg (by simp)]
      rfl
    exact ⟨p.2, _, _, _, by rw [k__law_more_voids_9, sThen_ap, e4, andThen_nx, sThen_ap, e5, andThen_nx, sThen_ap, e7, andThen_nx, e8], hp⟩
theorem more_eq {cs : List Int} {xs : List Pp} (ok : ∀ p ∈ xs, PpOk m p) (hl : xs.length ≤ 100) (hc : xs.length = cs.length) : ∃ qs : List Pp, f__law_more_voids [.lst false (cs.map .int), ps false xs] = .ok (ps true qs) [] ∧ qs.map (·.1) = xs.map (·.1) ∧ ∀ p ∈ qs, PpOk m p := by
  have z0 : 0 ≤ sizeLine := by decide
  have l0 : l__law_more_voids_0 [some (.lst false (cs.map .int)), some (ps false xs), none, none, none, none, none, none, none] = .ok (.lst true ((xs.map (·.1)).map .int)) := by
    rw [List.map_map]
    refine lc_map (e := ppD) (by omega) (by simp [cl]) fun p hp => ?_
    have i0 := RQ.p0 p
    simp [lcOne, wipeE, i0]
  have e1 : t__law_more_voids_1 [some (.lst false (cs.map .int)), some (ps false xs), none, none, none, none, none, none, none] = .nx [some (.lst false (cs.map .int)), some (ps false xs), some (.lst false ((xs.map (·.1)).map .int)), none, none, none, none, none, none] := by
    simp [t__law_more_voids_1, l0, frz_ints, -List.map_map]
  have nin : ∀ x ∈ xs.map (·.1), 1 ≤ x := fun x hx => by
    obtain ⟨p, hp, rfl⟩ := List.mem_map.mp hx
    exact (ok p hp).1
  have nl : (xs.map (·.1)).length = xs.length := List.length_map _
  obtain ⟨nums, hnums⟩ : ∃ nums, nums = xs.map (·.1) := ⟨_, rfl⟩
  rw [← hnums] at e1 nin nl
  have e2 : t__law_more_voids_2 [some (.lst false (cs.map .int)), some (ps false xs), some (.lst false (nums.map .int)), none, none, none, none, none, none] = .nx (EM cs xs nums [] none none none none) := by
    simp [t__law_more_voids_2, z0]
  have en : enum1 [ps false xs] = some ((xs.zipIdx 0).map fun p => .tup [.int (p.2 : Int), ppD p.1]) := by
    simp only [enum1, lstD_l (cl xs), Option.map_some, pairs_zip]
  obtain ⟨ρ', hf, fd, j, p, l, x, rfl, h1, h2⟩ := for_of (e := fun p : Pp × Nat => D.tup [.int (p.2 : Int), ppD p.1]) (t := .tp [.nm 4, .nm 5]) (S := k__law_more_voids_9) (fun pre ρ => ∃ fd j p l x, ρ = EM cs xs nums fd j p l x ∧ fd.map (·.1) = nums.take pre.length ∧ ∀ p ∈ fd, PpOk m p)
    (xs := xs.zipIdx 0) (ρ := EM cs xs nums [] none none none none) ⟨[], none, none, none, none, rfl, by simp, by simp⟩ (by
      rintro pre ⟨y, i⟩ q ρ hx ⟨fd, j, p, l, x, rfl, h1, h2⟩
      obtain ⟨i1, i2⟩ := zip_at hx
      have ym : (y, i) ∈ xs.zipIdx 0 := by rw [hx]; simp
      have hy := List.mem_zipIdx ym
      have yx : xs[i]? = some y := by
        have := hy.2.2
        simp only [Nat.sub_zero] at this
        rw [this, List.getElem?_eq_getElem]
      have pl : fd.length = pre.length := by
        have := congrArg List.length h1
        rw [List.length_map, List.length_take] at this
        omega
      obtain ⟨pk, p', l', x', st, ok'⟩ := more_step (m := m) (cs := cs) (xs := xs) (fd := fd) (nums := nums) (j := i) (p := y) (l0 := l) (x0 := x) (ok y (List.mem_of_getElem? yx)) nin (by omega) (by omega) (by omega) (by omega)
      refine ⟨EM cs xs nums fd (some (.int (i : Int))) (some (ppD y)) l x, _, by simp [ppD_frz], st, _, _, _, _, _, rfl, ?_, ?_⟩
      · rw [List.map_append, h1, List.length_append, List.length_cons, List.length_nil, Nat.zero_add, List.take_succ]
        subst i1
        rw [hnums, List.getElem?_map, yx]
        rfl
      · intro z hz
        rcases List.mem_append.mp hz with hz | hz
        · exact h2 z hz
        · rw [List.mem_singleton.mp hz]
          exact ok')
  rw [List.length_zipIdx, ← nl, List.take_length] at h1
  have e9 : t__law_more_voids_9 (EM cs xs nums [] none none none none) = .nx (EM cs xs nums fd j p l x) := by
    have e : (sCons (sVar 1) sNil) (EM cs xs nums [] none none none none) = .ok [ps false xs] := by simp [cl]
    rw [t__law_more_voids_9, sFor_ap, sI_ap, e, bind_ok, en, opt_some, stm_ok]
    exact hf
  refine ⟨fd, ?_, by rw [h1, hnums], h2⟩
  rw [f__law_more_voids, runDef_ap]
  unfold b__law_more_voids
  rw [sThen_ap, show entry 9 [D.lst false (cs.map .int), ps false xs] = [some (.lst false (cs.map .int)), some (ps false xs), none, none, none, none, none, none, none] from rfl, e1, andThen_nx, sThen_ap, e2, andThen_nx, sThen_ap, e9, andThen_nx]
  simp
end
end Lk22

/-! k22: the law. -/
namespace Lk22
open PySem RL RM RG RQ RK L2
section
variable {m : Mt} {nb nr : Nat}
abbrev EF (ns cs : List Int) (m : Mt) (xs : List Pp) (k a : Option D) : RL.Env := [some (.scr ns), some m.D, some (.lst false (cs.map .int)), some (ps false xs), k, a]
theorem cutD (xs : List Pp) (j : Nat) : opSl (ps false xs) (some (j : Int)) none = some (ps true (xs.drop j)) := by
  simp only [opSl, cl, if_true, cut_n0]; rw [← List.map_drop]
theorem cutT (xs : List Pp) (j : Nat) : opSl (ps false xs) none (some (j : Int)) = some (ps true (xs.take j)) := by
  simp only [opSl, cl, if_true, cut_0n]; rw [← List.map_take]
theorem revD (xs : List Pp) : opRev (ps true xs) = some (ps true xs.reverse) := by
  simp [opRev, cl, List.map_reverse]
theorem addD {xs ys : List Pp} (h : xs.length + ys.length ≤ 1000) : opAdd (ps true xs) (ps true ys) = some (ps true (xs ++ ys)) := by
  rw [opAdd_l (cl xs) (cl ys) (by simp [sizeLine]; omega), ← List.map_append]
theorem right_of (g : Good nb nr m) {xs ys : List Pp} (h : Pps xs) (ok : ∀ p ∈ xs, PpOk m p) (hl : xs.length ≤ 500) (hy : ys.Perm xs) : f__law_right [ps false ys] = .ok (.bl true) [] :=
  right_eq g (h.perm hy.symm) (fun p hp => ok p (hy.subset hp)) (by rw [hy.length_eq]; exact hl)
theorem right_sub (g : Good nb nr m) {xs ys : List Pp} (h : Pps xs) (ok : ∀ p ∈ xs, PpOk m p) (hl : xs.length ≤ 500) (hy : ys.Sublist xs) : f__law_right [ps false ys] = .ok (.bl true) [] :=
  right_eq g (h.sub hy) (fun p hp => ok p (hy.subset hp)) (Nat.le_trans hy.length_le hl)
theorem turn {α : Type} (xs : List α) (j : Nat) : (xs.drop j ++ xs.take j).Perm xs := (List.perm_append_comm).trans (by rw [List.take_append_drop])
theorem flip {α : Type} (xs : List α) (j : Nat) : ((xs.take j).reverse ++ xs.drop j).Perm xs := ((List.reverse_perm _).append_right _).trans (by rw [List.take_append_drop])
theorem lack {α : Type} (xs : List α) (j : Nat) : (xs.take j ++ xs.drop (j + 1)).Sublist xs := by
  conv => rhs; rw [← List.take_append_drop j xs]
  exact (List.Sublist.refl _).append (by rw [← List.drop_drop]; exact List.drop_sublist _ _)
theorem step7 (g : Good nb nr m) {ns cs : List Int} {xs : List Pp} (h : Pps xs) (ok : ∀ p ∈ xs, PpOk m p) (hl : xs.length ≤ 500) {k : Nat} (hk : k < 6) {a : Option D} : ∃ a', k_law_7 (EF ns cs m xs (some (.int (k : Int))) a) = .nx (EF ns cs m xs (some (.int (k : Int))) a') := by
  obtain ⟨c, hc⟩ : ∃ c, f__law_cell_at [.scr ns, .int 5] = .ok (.int c) [] := ⟨_, cell_eq (k := 5)⟩
  obtain ⟨v, mv⟩ := mixE c (k := 20 + (k : Int)) (by omega)
  rw [← same_mixed] at mv
  obtain ⟨at_, al, qa⟩ := modN v (b := (xs.length : Int) + 1) (by omega)
  have e5 : t_law_5 (EF ns cs m xs (some (.int (k : Int))) a) = .nx (EF ns cs m xs (some (.int (k : Int))) (some (.int (at_ : Int)))) := by
    simp [t_law_5, hc, mv, qa]
  have l1 : (xs.drop at_).length + (xs.take at_).length ≤ 1000 := by rw [List.length_drop, List.length_take]; omega
  have l2 : (xs.take at_).reverse.length + (xs.drop at_).length ≤ 1000 := by rw [List.length_reverse, List.length_drop, List.length_take]; omega
  have a1 := addD l1
  have a2 := addD l2
  have r1 := right_of g h ok hl (turn xs at_)
  have r2 := right_of g h ok hl (flip xs at_)
  have c1 := cutD xs at_
  have c2 := cutT xs at_
  have rv := revD (xs.take at_)
  generalize xs.drop at_ = x1 at *
  generalize xs.take at_ = x2 at *
  refine ⟨some (.int (at_ : Int)), ?_⟩
  have f1 : ∀ ys : List Pp, frzL [ps true ys] = [ps false ys] := fun ys => by simp [frzL, D.frz, fz]
  have w1 : (s2 opAdd (sSl (sVarB 3) (sPs (sVarB 5)) sPn) (sSl (sVarB 3) sPn (sPs (sVarB 5)))) (EF ns cs m xs (some (.int (k : Int))) (some (.int (at_ : Int)))) = .ok (ps true (x1 ++ x2)) := by
    simp [c1, c2, a1]
  have w2 : (s2 opAdd (s1 opRev (sSl (sVarB 3) sPn (sPs (sVarB 5)))) (sSl (sVarB 3) (sPs (sVarB 5)) sPn)) (EF ns cs m xs (some (.int (k : Int))) (some (.int (at_ : Int)))) = .ok (ps true (x2.reverse ++ x1)) := by
    simp [c1, c2, a2, rv]
  rw [k_law_7, sThen_ap, e5, andThen_nx, t_law_6, sIfS_ap]
  simp only [sOrT_ap, sNot_ap, sTest_ap, sCallF_ap, sCons_ap, sNil_ap, w1, w2, bind_ok, f1, r1, r2, List.length_cons, List.length_nil, if_true, Nat.zero_add]
  simp
theorem step9 (g : Good nb nr m) {ns cs : List Int} {xs : List Pp} (h : Pps xs) (ok : ∀ p ∈ xs, PpOk m p) (hl : xs.length ≤ 500) {k : Nat} {a : Option D} : t_law_8 (EF ns cs m xs (some (.int (k : Int))) a) = .nx (EF ns cs m xs (some (.int (k : Int))) a) := by
  have l1 : (xs.take k).length + (xs.drop (k + 1)).length ≤ 1000 := by rw [List.length_drop, List.length_take]; omega
  have a1 := addD l1
  have r1 := right_sub g h ok hl (lack xs k)
  have c1 := cutD xs (k + 1)
  have c2 := cutT xs k
  rw [show ((k + 1 : Nat) : Int) = (k : Int) + 1 by omega] at c1
  generalize xs.drop (k + 1) = x1 at *
  generalize xs.take k = x2 at *
  have f1 : ∀ ys : List Pp, frzL [ps true ys] = [ps false ys] := fun ys => by simp [frzL, D.frz, fz]
  have w1 : (s2 opAdd (sSl (sVarB 3) sPn (sPs (sVarB 4))) (sSl (sVarB 3) (sPs (s2 opAdd (sVarB 4) (sC (.int 1)))) sPn)) (EF ns cs m xs (some (.int (k : Int))) a) = .ok (ps true (x2 ++ x1)) := by
    simp [c1, c2, a1]
  rw [t_law_8, sIfS_ap]
  simp only [sNot_ap, sTest_ap, sCallF_ap, sCons_ap, sNil_ap, w1, bind_ok, f1, r1, List.length_cons, List.length_nil, if_true, Nat.zero_add]
  simp
theorem law_true (ns : List Int) (hn : ns.length ≤ 63) : ∃ os, f_law [.scr ns] = .ok (.bl true) os := by
  have z0 : 0 ≤ sizeLine := by decide
  obtain ⟨m, g, hm⟩ := meeting_eq (ns := ns) (nb := 8) (nr := 4) (by decide) (by decide) (by decide)
  rw [← same_meeting] at hm
  obtain ⟨c4, hc4⟩ : ∃ c, f__law_cell_at [.scr ns, .int 4] = .ok (.int c) [] := ⟨_, cell_eq (k := 4)⟩
  obtain ⟨v, mv⟩ := mixE c4 (k := 11) (by decide)
  rw [← same_mixed] at mv
  obtain ⟨cs, hcs⟩ : ∃ cs : List Int, cs = cutL ns (some 4) (some 63) := ⟨_, rfl⟩
  have cll : cs.length ≤ 59 := by
    have := cut_nn ns 4 63
    rw [show ((4 : Nat) : Int) = 4 from rfl, show ((63 : Nat) : Int) = 63 from rfl] at this
    rw [hcs, this, List.length_take, List.length_drop]
    omega
  obtain ⟨xs0, hx0, nd0, len0, ok0⟩ := papers_eq g (by decide) (cs := cs) v (by omega)
  rw [← same_papers] at hx0
  have e0 : t_law_0 [some (.scr ns), none, none, none, none, none] = .nx [some (.scr ns), some m.D, none, none, none, none] := by
    have mf := mtD_frz (m := m)
    have hm' : f__law_meeting [.scr ns, .int 8, .int 4] = .ok m.D [] := hm
    simp [t_law_0, hm', mf]
  have e1 : t_law_1 [some (.scr ns), some m.D, none, none, none, none] = .nx [some (.scr ns), some m.D, some (.lst false (cs.map .int)), none, none, none] := by
    have lc : cs.length ≤ sizeLine := by unfold sizeLine; omega
    simp [t_law_1, opSl, ← hcs, fListX, fList, cl_ints, lc, frz_ints]
  have e2 : t_law_2 [some (.scr ns), some m.D, some (.lst false (cs.map .int)), none, none, none] = .nx (EF ns cs m xs0 none none) := by
    have a : (sCons (sVar 2) (sCons (sVar 1) (sCons (sCallF 2 f__law_mixed (sCons (sCallF 2 f__law_cell_at (sCons (sVar 0) (sCons (sC (.int 4)) sNil))) (sCons (sC (.int 11)) sNil))) sNil))) [some (.scr ns), some m.D, some (.lst false (cs.map .int)), none, none, none] = .ok [.lst false (cs.map .int), m.D, .int v] := by
      simp [hc4, mv, cl_ints]
    have f : frzL [.lst false (cs.map .int), m.D, .int v] = [.lst false (cs.map .int), m.D, .int v] := by
      simp [frzL, D.frz, frz_ints]
    rw [t_law_2, sAsg_ap, sCallF_ap, a, bind_ok, f, hx0]
    simp [fz]
  have q2 := mod_pos' (i := c4) (j := 2) (by decide)
  obtain ⟨xs, e4, nd, len, ok⟩ : ∃ xs : List Pp, t_law_4 (EF ns cs m xs0 none none) = .nx (EF ns cs m xs none none) ∧ (xs.map (·.1)).Nodup ∧ xs.length = cs.length ∧ ∀ p ∈ xs, PpOk m p := by
    by_cases hc : c4 % 2 = 1
    · obtain ⟨qs, hq, q1, q2'⟩ := more_eq (cs := cs) ok0 (by omega) len0
      have ql : qs.length = xs0.length := by
        have := congrArg List.length q1
        simpa using this
      refine ⟨qs, ?_, by rw [q1]; exact nd0, by omega, q2'⟩
      have e3 : t_law_3 (EF ns cs m xs0 none none) = .nx (EF ns cs m qs none none) := by
        simp [t_law_3, cl_ints, frz_ints, cl, fz, hq]
      rw [t_law_4, sIfS_ap]
      have : sTest (s2 opEq (s2 opMod (sCallF 2 f__law_cell_at (sCons (sVar 0) (sCons (sC (.int 4)) sNil))) (sC (.int 2))) (sC (.int 1))) (EF ns cs m xs0 none none) = .ok true := by
        simp [hc4, q2, hc]
      rw [this, stm_ok, if_pos rfl, e3]
    · refine ⟨xs0, ?_, nd0, len0, ok0⟩
      rw [t_law_4, sIfS_ap]
      have : sTest (s2 opEq (s2 opMod (sCallF 2 f__law_cell_at (sCons (sVar 0) (sCons (sC (.int 4)) sNil))) (sC (.int 2))) (sC (.int 1))) (EF ns cs m xs0 none none) = .ok false := by
        simp [hc4, q2, hc]
      rw [this, stm_ok, if_neg (by simp)]
      rfl
  have pp := pps_of nd ok
  have xl : xs.length ≤ 500 := by omega
  obtain ⟨ρ7, h7, k7, a7, rfl⟩ := for_up (t := 4) (S := k_law_7) (fun i ρ => ∃ k a, ρ = EF ns cs m xs k a) (n := 6) (ρ := EF ns cs m xs none none) ⟨none, none, rfl⟩ (by rintro i ρ ⟨k, a, rfl⟩; simp) (by
    rintro i ρ hi ⟨k, a, rfl⟩
    obtain ⟨a', h⟩ := step7 g (ns := ns) (cs := cs) pp ok xl hi (a := a)
    exact ⟨_, h, _, _, rfl⟩)
  have e7 : t_law_7 (EF ns cs m xs none none) = .nx (EF ns cs m xs k7 a7) := by
    have e : (sCons (sC (.int 6)) sNil) (EF ns cs m xs none none) = .ok [.int ((6 : Nat) : Int)] := rfl
    rw [t_law_7, sFor_ap, sI_ap, e, bind_ok, rng1_nat (by decide), opt_some, stm_ok]
    exact h7
  have mn : fMin2 (.int 10) (.int (xs.length : Int)) = some (.int (if (xs.length : Int) < 10 then (xs.length : Int) else 10)) := rfl
  obtain ⟨mm, hmm⟩ : ∃ mm : Nat, (if (xs.length : Int) < 10 then (xs.length : Int) else 10) = (mm : Int) ∧ mm ≤ 10 := by
    split
    · exact ⟨xs.length, rfl, by omega⟩
    · exact ⟨10, rfl, by omega⟩
  rw [hmm.1] at mn
  obtain ⟨ρ9, h9, k9, a9, rfl⟩ := for_up (t := 4) (S := t_law_8) (fun i ρ => ∃ k a, ρ = EF ns cs m xs k a) (n := mm) (ρ := EF ns cs m xs k7 a7) ⟨k7, a7, rfl⟩ (by rintro i ρ ⟨k, a, rfl⟩; simp) (by
    rintro i ρ hi ⟨k, a, rfl⟩
    exact ⟨_, step9 g (ns := ns) (cs := cs) pp ok xl (k := i) (a := a), _, _, rfl⟩)
  have e9 : t_law_9 (EF ns cs m xs k7 a7) = .nx (EF ns cs m xs k9 a9) := by
    have e : (sCons (sCall (on2 fMin2) (sCons (sC (.int 10)) (sCons (sCall (on1 fLenX) (sCons (sVarB 3) sNil)) sNil))) sNil) (EF ns cs m xs k7 a7) = .ok [.int (mm : Int)] := by
      simp [mn]
    rw [t_law_9, sFor_ap, sI_ap, e, bind_ok, rng1_nat (by omega), opt_some, stm_ok]
    exact h9
  have e10 : ∀ k a, t_law_10 (EF ns cs m xs k a) = .rt (.bl true) (EF ns cs m xs k a) := by
    intro k a
    have ce := counting_eq (o := false) (ps := []) (by simp)
    rw [← same_counting] at ce
    have c0 : counted [] = [] := by simp [counted, byNum, runC]
    rw [c0] at ce
    simp only [List.map_nil] at ce
    have eq : opEq (.lst true []) (.lst true []) = some (.bl true) := opEq_same (x := .lst true []) (y := .lst true []) (by decide) (by decide) rfl
    simp [t_law_10, z0, ce, eq, frzL]
  refine ⟨[], ?_⟩
  rw [f_law, runDef_ap]
  unfold b_law
  rw [sThen_ap, show entry 6 [D.scr ns] = [some (.scr ns), none, none, none, none, none] from rfl, e0, andThen_nx, sThen_ap, e1, andThen_nx, sThen_ap, e2, andThen_nx, sThen_ap, e4, andThen_nx, sThen_ap, e7, andThen_nx, sThen_ap, e9, andThen_nx, e10]
  simp
end
end Lk22

namespace Lk22
open PySem PySem.Spec PyProof.Rows L2 RL
def topS (i : Nat) : Stmt := PySem.Challenge.pw_regattaroll_k22_whole_what_counts.main.body.getD i (.Pass ⟨0, 0, 0, 0⟩)
abbrev s_counting : Stmt := topS 2
abbrev N_counting : List Str := ["papers", "found", "voided", "paper"]
theorem c_counting : FnScope N_counting ["papers"] (defScope s_counting) := ⟨rfl, rfl, rfl, by decide +kernel, rfl, by decide +kernel, by decide +kernel⟩
theorem o_counting {P : Program} {w : World} {K : PySem.W.Frag} {mg : Str → Option Value} {base : Heap} {f : Addr} {fd : FuncData} (F : Fun K "counting" "counting" s_counting f fd) (g : mg "counting" = some (.ref f)) (lam : LamCod K mg base f "counting") (m_VOID : ∃ t, mg "VOID" = some (.str "void" t)) (m_sorted : mg "sorted" = none) :
    DefOk P w K mg base "counting" 1 ["papers"] f_counting := DefOk.mk' F g (fn_okC F c_counting List.nodup_nil (by
  rintro X W cdv A outer s H E rfl hcd hr tk hp
  obtain ⟨cc, ct, la⟩ := lamAt_of (P := P) (w := w) (N := N_counting) (sc := defScope s_counting) (A := A) (outer := outer) (s := s) (H := H) (E := E) lam hcd
  exact (ss_cons (s_set 1 (f := false) c_counting.nd (e_lst a_nil))
    (ss_cons (s_set 2 (f := false) c_counting.nd e_dnew)
    (ss_cons (s_for hp rfl (i_any (bor := false) (e_rev (EOk.bo (e_sortLam (k := 0) key1_ok hr m_sorted (b_var 0) la (body1 (by decide)))))) (g_nm 3 c_counting.nd)
    (ss_one (s_if (t_cmp (o_notin hr.r) (b_sub (hu_of hr.r) (b_var 3) (EOk.bo e_int)) (b_var 2)) (ss_cons (s_mut PySem.F.slot_list_append PySem.F.type_list_append m_append (pl_var 1) (a_cons (e_var 3) a_nil))
    (ss_one (s_if (t_cmp (o_eq hr.r) (b_sub (hu_of hr.r) (b_var 3) (EOk.bo e_int)) (EOk.bo (e_globS m_VOID))) (ss_one (s_putD true (hu_of hr.r) (pl_var 2) (b_sub (hu_of hr.r) (b_var 3) (EOk.bo e_int)) e_bl)) ss_nil))) ss_nil)))
    (ss_one (s_ret (e_rev (b_var 1))))))))) fun _ _ _ _ _ _ us hl => match us, hl with | [_], _ => rfl
abbrev s__law_cell_at : Stmt := topS 4
abbrev N__law_cell_at : List Str := ["_law_script", "_law_k"]
theorem c__law_cell_at : FnScope N__law_cell_at ["_law_script", "_law_k"] (defScope s__law_cell_at) := ⟨rfl, rfl, rfl, by decide +kernel, rfl, by decide +kernel, by decide +kernel⟩
theorem o__law_cell_at {P : Program} {w : World} {K : PySem.W.Frag} {mg : Str → Option Value} {base : Heap} {f : Addr} {fd : FuncData} (F : Fun K "_law_cell_at" "_law_cell_at" s__law_cell_at f fd) (g : mg "_law_cell_at" = some (.ref f)) (m_len : mg "len" = none) :
    DefOk P w K mg base "_law_cell_at" 1 ["_law_script", "_law_k"] f__law_cell_at := DefOk.mk' F g (fn_ok F c__law_cell_at List.nodup_nil (by
  rintro X W cdv A outer s H E rfl hr tk hp
  exact (ss_cons (s_if (t_cmp o_lt (b_var 1) (EOk.bo (e_callB c_lenX m_len (by decide +kernel) (ab_cons (b_var 0) ab_nil)))) (ss_one (s_ret (BOk.eo (b_sub (hu_of hr.r) (b_var 0) (b_var 1))))) ss_nil)
    (ss_one (s_ret e_int))))) fun _ _ _ _ _ _ us hl => match us, hl with | [_, _], _ => rfl
abbrev s__law_mixed : Stmt := topS 5
abbrev N__law_mixed : List Str := ["_law_cell", "_law_k", "_law_number"]
theorem c__law_mixed : FnScope N__law_mixed ["_law_cell", "_law_k"] (defScope s__law_mixed) := ⟨rfl, rfl, rfl, by decide +kernel, rfl, by decide +kernel, by decide +kernel⟩
theorem o__law_mixed {P : Program} {w : World} {K : PySem.W.Frag} {mg : Str → Option Value} {base : Heap} {f : Addr} {fd : FuncData} (F : Fun K "_law_mixed" "_law_mixed" s__law_mixed f fd) (g : mg "_law_mixed" = some (.ref f))  :
    DefOk P w K mg base "_law_mixed" 1 ["_law_cell", "_law_k"] f__law_mixed := DefOk.mk' F g (fn_ok F c__law_mixed List.nodup_nil (by
  rintro X W cdv A outer s H E rfl hr tk hp
  exact (ss_cons (s_set 2 (f := true) c__law_mixed.nd (e_op o_mod (EOk.bo (e_op o_add (EOk.bo (e_op o_add (EOk.bo (e_op o_mul (b_var 0) (EOk.bo e_int))) (EOk.bo (e_op o_mul (EOk.bo e_int) (b_var 1))))) (EOk.bo e_int))) (EOk.bo e_int)))
    (ss_one (s_ret (e_op o_mod (EOk.bo (e_op o_mul (EOk.bo (e_op o_mod (EOk.bo (e_op o_mul (b_var 2) (b_var 2))) (EOk.bo e_int))) (b_var 2))) (EOk.bo e_int))))))) fun _ _ _ _ _ _ us hl => match us, hl with | [_, _], _ => rfl
abbrev s__law_entered : Stmt := topS 9
abbrev N__law_entered : List Str := ["_law_plain", "_law_race", "_law_boat"]
theorem c__law_entered : FnScope N__law_entered ["_law_plain", "_law_race"] (defScope s__law_entered) := ⟨rfl, rfl, rfl, by decide +kernel, rfl, by decide +kernel, by decide +kernel⟩
theorem o__law_entered {P : Program} {w : World} {K : PySem.W.Frag} {mg : Str → Option Value} {base : Heap} {f : Addr} {fd : FuncData} (F : Fun K "_law_entered" "_law_entered" s__law_entered f fd) (g : mg "_law_entered" = some (.ref f))  :
    DefOk P w K mg base "_law_entered" 1 ["_law_plain", "_law_race"] f__law_entered := DefOk.mk' F g (fn_ok F c__law_entered List.nodup_nil (by
  rintro X W cdv A outer s H E rfl hr tk hp
  exact (ss_one (s_ret (e_lc rfl c__law_entered.nd (bor := true) (own := [("_law_boat", 2)]) (i_any (bor := true) (BOk.eo (b_sub (hu_of hr.r) (b_var 0) (EOk.bo e_int)))) (blkOk_by (own := [("_law_boat", 2)]) (N := N__law_entered) (sc := defScope s__law_entered) (by decide +kernel)) (by decide) (fun _ _ _ _ _ => (g_nm 2 c__law_entered.nd)) (fun _ _ _ _ _ => (ts_one (t_cmp (o_in hr.r) (b_sub (hu_of hr.r) (b_var 1) (EOk.bo e_int)) (EOk.bo (e_tup (a_cons e_str (a_cons (BOk.eo (b_sub (hu_of hr.r) (b_var 2) (EOk.bo e_int))) a_nil))))))) (fun _ _ _ _ _ => (BOk.eo (b_sub (hu_of hr.r) (b_var 2) (EOk.bo e_int))))))))) fun _ _ _ _ _ _ us hl => match us, hl with | [_, _], _ => rfl
abbrev s__law_is_due : Stmt := topS 13
abbrev N__law_is_due : List Str := ["_law_papers_here", "_law_told", "_law_voided", "_law_numbers", "_law_known", "_law_paper_here", "_law_number"]
theorem c__law_is_due : FnScope N__law_is_due ["_law_papers_here", "_law_told"] (defScope s__law_is_due) := ⟨rfl, rfl, rfl, by decide +kernel, rfl, by decide +kernel, by decide +kernel⟩
theorem o__law_is_due {P : Program} {w : World} {K : PySem.W.Frag} {mg : Str → Option Value} {base : Heap} {f : Addr} {fd : FuncData} (F : Fun K "_law_is_due" "_law_is_due" s__law_is_due f fd) (g : mg "_law_is_due" = some (.ref f)) (sk : SysK K) (m_dict : mg "dict" = none) (m_isinstance : mg "isinstance" = none) (m_list : mg "list" = none) (m_repr : mg "repr" = none) (m_sorted : mg "sorted" = none) :
    DefOk P w K mg base "_law_is_due" 1 ["_law_papers_here", "_law_told"] f__law_is_due := DefOk.mk' F g (fn_ok F c__law_is_due List.nodup_nil (by
  rintro X W cdv A outer s H E rfl hr tk hp
  exact (ss_cons (s_set 2 (f := true) c__law_is_due.nd (e_lc rfl c__law_is_due.nd (bor := true) (own := [("_law_paper_here", 5)]) (i_any (bor := true) (e_var 1)) (blkOk_by (own := [("_law_paper_here", 5)]) (N := N__law_is_due) (sc := defScope s__law_is_due) (by decide +kernel)) (by decide) (fun _ _ _ _ _ => (g_nm 5 c__law_is_due.nd)) (fun _ _ _ _ _ => (ts_one (t_cmp (o_eq hr.r) (b_sub (hu_of hr.r) (b_var 5) (EOk.bo e_int)) (EOk.bo e_str)))) (fun _ _ _ _ _ => (BOk.eo (b_sub (hu_of hr.r) (b_var 5) (EOk.bo e_int))))))
    (ss_cons (s_set 3 (f := true) c__law_is_due.nd (e_callB c_sortI m_sorted (by decide +kernel) (ab_cons (EOk.bo (e_lc rfl c__law_is_due.nd (bor := true) (own := [("_law_paper_here", 5)]) (i_any (bor := true) (e_var 0)) (blkOk_by (own := [("_law_paper_here", 5)]) (N := N__law_is_due) (sc := defScope s__law_is_due) (by decide +kernel)) (by decide) (fun _ _ _ _ _ => (g_nm 5 c__law_is_due.nd)) (fun _ _ _ _ _ => (ts_one (t_cmp (o_notin hr.r) (b_sub (hu_of hr.r) (b_var 5) (EOk.bo e_int)) (b_var 2)))) (fun _ _ _ _ _ => (BOk.eo (b_sub (hu_of hr.r) (b_var 5) (EOk.bo e_int)))))) ab_nil)))
    (ss_cons (s_set 4 (f := true) c__law_is_due.nd (e_dict rfl m_dict (e_lc rfl c__law_is_due.nd (bor := true) (own := [("_law_paper_here", 5)]) (i_any (bor := true) (e_var 0)) (blkOk_by (own := [("_law_paper_here", 5)]) (N := N__law_is_due) (sc := defScope s__law_is_due) (by decide +kernel)) (by decide) (fun _ _ _ _ _ => (g_nm 5 c__law_is_due.nd)) (fun _ _ _ _ _ => ts_nil) (fun _ _ _ _ _ => (e_tup (a_cons (BOk.eo (b_sub (hu_of hr.r) (b_var 5) (EOk.bo e_int))) (a_cons (e_var 5) a_nil)))))))
    (ss_one (s_ret (e_and (e_isTy "list" m_isinstance m_list (by decide +kernel) (b_var 1)) (e_one (e_cmp (o_eq hr.r) (EOk.bo (e_callB (c_repr hr sk) m_repr (by decide +kernel) (ab_cons (b_var 1) ab_nil))) (EOk.bo (e_callB (c_repr hr sk) m_repr (by decide +kernel) (ab_cons (EOk.bo (e_lc rfl c__law_is_due.nd (bor := true) (own := [("_law_number", 6)]) (i_any (bor := true) (e_var 3)) (blkOk_by (own := [("_law_number", 6)]) (N := N__law_is_due) (sc := defScope s__law_is_due) (by decide +kernel)) (by decide) (fun _ _ _ _ _ => (g_nm 6 c__law_is_due.nd)) (fun _ _ _ _ _ => ts_nil) (fun _ _ _ _ _ => (BOk.eo (b_sub (hu_of hr.r) (b_var 4) (b_var 6)))))) ab_nil))))))))))))) fun _ _ _ _ _ _ us hl => match us, hl with | [_, _], _ => rfl
abbrev s__law_names : Stmt := topS 6
abbrev N__law_names : List Str := ["_law_cell", "_law_many", "_law_signs", "_law_row", "_law_at", "_law_long", "_law_step", "_law_found", "_law_k", "_law_sign", "_law_j", "_law_name"]
theorem c__law_names : FnScope N__law_names ["_law_cell", "_law_many"] (defScope s__law_names) := ⟨rfl, rfl, rfl, by decide +kernel, rfl, by decide +kernel, by decide +kernel⟩
theorem o__law_names {P : Program} {w : World} {K : PySem.W.Frag} {mg : Str → Option Value} {base : Heap} {f : Addr} {fd : FuncData} (F : Fun K "_law_names" "_law_names" s__law_names f fd) (g : mg "_law_names" = some (.ref f)) (d__law_mixed : DefOk P w K mg base "_law_mixed" 1 ["_law_cell", "_law_k"] f__law_mixed) (m_range : mg "range" = none) :
    DefOk P w K mg base "_law_names" 2 ["_law_cell", "_law_many"] f__law_names := DefOk.mk' F g (fn_ok F c__law_names List.nodup_nil (by
  rintro X W cdv A outer s H E rfl hr tk hp
  exact (ss_cons (s_set 2 (f := true) c__law_names.nd e_str)
    (ss_cons (s_setLc 3 (f := true) (bor := true) (own := [("_law_j", 10)]) rfl c__law_names.nd (i_rng1 (bor := true) m_range (ab_cons (EOk.bo e_int) ab_nil)) (blkOk_by (own := [("_law_j", 10)]) (N := N__law_names) (sc := defScope s__law_names) (by decide +kernel)) (by decide) (fun _ _ _ _ _ => (g_nm 10 c__law_names.nd)) (fun _ _ _ _ _ => ts_nil) (fun _ _ _ _ _ => (BOk.eo (b_sub (hu_of hr.r) (b_var 2) (EOk.bo (e_op o_mod (EOk.bo (e_fn d__law_mixed hr.blk takes0 (a_cons (e_var 0) (a_cons (e_var 10) a_nil)))) (EOk.bo e_int)))))))
    (ss_cons (s_set 4 (f := true) c__law_names.nd (e_op o_mod (EOk.bo (e_fn d__law_mixed hr tk (a_cons (e_var 0) (a_cons e_int a_nil)))) (EOk.bo e_int)))
    (ss_cons (s_set 5 (f := true) c__law_names.nd (e_op o_add (EOk.bo (e_op o_add (b_var 4) (EOk.bo e_int))) (EOk.bo (e_op o_mod (EOk.bo (e_fn d__law_mixed hr tk (a_cons (e_var 0) (a_cons e_int a_nil)))) (EOk.bo (e_op o_sub (EOk.bo e_int) (b_var 4)))))))
    (ss_cons (s_set 6 (f := true) c__law_names.nd (e_ixF (hu_of hr.r) (e_lst (a_cons e_int (a_cons e_int (a_cons e_int (a_cons e_int (a_cons e_int (a_cons e_int a_nil))))))) (EOk.bo (e_op o_mod (EOk.bo (e_fn d__law_mixed hr tk (a_cons (e_var 0) (a_cons e_int a_nil)))) (EOk.bo e_int)))))
    (ss_cons (s_set 7 (f := false) c__law_names.nd (e_lst a_nil))
    (ss_cons (s_for hp rfl (i_rng1 (bor := false) m_range (ab_cons (EOk.bo (e_op o_add (b_var 1) (EOk.bo e_int))) ab_nil)) (g_nm 8 c__law_names.nd)
    (ss_cons (s_set 9 (f := true) c__law_names.nd (BOk.eo (b_sub (hu_of hr.r) (b_var 2) (EOk.bo (e_op o_mod (EOk.bo (e_op o_add (EOk.bo (e_fn d__law_mixed hr tk (a_cons (e_var 0) (a_cons e_int a_nil)))) (EOk.bo (e_op o_mul (b_var 6) (b_var 8))))) (EOk.bo e_int))))))
    (ss_one (s_mut PySem.F.slot_list_append PySem.F.type_list_append m_append (pl_var 7) (a_cons (e_join (EOk.bo e_str) (EOk.bo (e_op o_add (EOk.bo (e_op o_add (EOk.bo (e_slice (b_var 3) p_none (p_some (b_var 4)))) (EOk.bo (e_lst (a_cons (e_var 9) a_nil))))) (EOk.bo (e_slice (b_var 3) (p_some (EOk.bo (e_op o_add (b_var 4) (EOk.bo e_int)))) (p_some (b_var 5))))))) a_nil)))))
    (ss_one (s_ret (e_slice (EOk.bo (e_lc rfl c__law_names.nd (bor := true) (own := [("_law_name", 11)]) (i_seqB (b_var 7)) (blkOk_by (own := [("_law_name", 11)]) (N := N__law_names) (sc := defScope s__law_names) (by decide +kernel)) (by decide) (fun _ _ _ _ _ => (g_nm 11 c__law_names.nd)) (fun _ _ _ _ _ => (ts_one (t_cmp (o_ne hr.r) (b_var 11) (EOk.bo e_str)))) (fun _ _ _ _ _ => (e_var 11)))) p_none (p_some (b_var 1)))))))))))))) fun _ _ _ _ _ _ us hl => match us, hl with | [_, _], _ => rfl
abbrev s__law_handicap : Stmt := topS 7
abbrev N__law_handicap : List Str := ["_law_cell", "_law_number", "_law_word"]
theorem c__law_handicap : FnScope N__law_handicap ["_law_cell"] (defScope s__law_handicap) := ⟨rfl, rfl, rfl, by decide +kernel, rfl, by decide +kernel, by decide +kernel⟩
theorem o__law_handicap {P : Program} {w : World} {K : PySem.W.Frag} {mg : Str → Option Value} {base : Heap} {f : Addr} {fd : FuncData} (F : Fun K "_law_handicap" "_law_handicap" s__law_handicap f fd) (g : mg "_law_handicap" = some (.ref f)) (d__law_mixed : DefOk P w K mg base "_law_mixed" 1 ["_law_cell", "_law_k"] f__law_mixed) :
    DefOk P w K mg base "_law_handicap" 2 ["_law_cell"] f__law_handicap := DefOk.mk' F g (fn_ok F c__law_handicap List.nodup_nil (by
  rintro X W cdv A outer s H E rfl hr tk hp
  exact (ss_cons (s_set 1 (f := true) c__law_handicap.nd (e_ixF (hu_of hr.r) (e_lst (a_cons e_int (a_cons (e_op o_add (EOk.bo e_int) (EOk.bo (e_op o_mod (EOk.bo (e_fn d__law_mixed hr tk (a_cons (e_var 0) (a_cons e_int a_nil)))) (EOk.bo e_int)))) (a_cons (e_op o_add (EOk.bo e_int) (EOk.bo (e_op o_mod (EOk.bo (e_fn d__law_mixed hr tk (a_cons (e_var 0) (a_cons e_int a_nil)))) (EOk.bo e_int)))) a_nil)))) (EOk.bo (e_op o_mod (EOk.bo (e_fn d__law_mixed hr tk (a_cons (e_var 0) (a_cons e_int a_nil)))) (EOk.bo e_int)))))
    (ss_cons (s_set 2 (f := true) c__law_handicap.nd (e_ixF (hu_of hr.r) (e_lst (a_cons e_str (a_cons e_str (a_cons e_str (a_cons e_str a_nil))))) (EOk.bo (e_op o_mod (EOk.bo (e_fn d__law_mixed hr tk (a_cons (e_var 0) (a_cons e_int a_nil)))) (EOk.bo e_int)))))
    (ss_one (s_ret (e_if (t_cmp (o_eq hr.r) (b_var 2) (EOk.bo e_str)) (e_tup (a_cons (e_var 2) a_nil)) (e_tup (a_cons (e_var 2) (a_cons (e_var 1) a_nil)))))))))) fun _ _ _ _ _ _ us hl => match us, hl with | [_], _ => rfl
abbrev s__law_paper : Stmt := topS 10
abbrev N__law_paper : List Str := ["_law_cell", "_law_plain", "_law_number", "_law_races", "_law_way", "_law_race", "_law_entered_here", "_law_sail", "_law_far", "_law_time", "_law_some"]
theorem c__law_paper : FnScope N__law_paper ["_law_cell", "_law_plain", "_law_number"] (defScope s__law_paper) := ⟨rfl, rfl, rfl, by decide +kernel, rfl, by decide +kernel, by decide +kernel⟩
theorem o__law_paper {P : Program} {w : World} {K : PySem.W.Frag} {mg : Str → Option Value} {base : Heap} {f : Addr} {fd : FuncData} (F : Fun K "_law_paper" "_law_paper" s__law_paper f fd) (g : mg "_law_paper" = some (.ref f)) (d__law_mixed : DefOk P w K mg base "_law_mixed" 1 ["_law_cell", "_law_k"] f__law_mixed) (d__law_entered : DefOk P w K mg base "_law_entered" 1 ["_law_plain", "_law_race"] f__law_entered) (m_len : mg "len" = none) (m_max : mg "max" = none) (m_min : mg "min" = none) :
    DefOk P w K mg base "_law_paper" 2 ["_law_cell", "_law_plain", "_law_number"] f__law_paper := DefOk.mk' F g (fn_ok F c__law_paper List.nodup_nil (by
  rintro X W cdv A outer s H E rfl hr tk hp
  exact (ss_cons (s_set 3 (f := true) c__law_paper.nd (BOk.eo (b_sub (hu_of hr.r) (b_var 1) (EOk.bo e_int))))
    (ss_cons (s_set 4 (f := true) c__law_paper.nd (e_op o_mod (EOk.bo (e_fn d__law_mixed hr tk (a_cons (e_var 0) (a_cons e_int a_nil)))) (EOk.bo e_int)))
    (ss_cons (s_if (WOk.t (w_or (t_cmp (o_eq hr.r) (b_var 4) (EOk.bo e_int)) (w_or1 (t_cmp (o_eq hr.r) (b_var 3) (EOk.bo (e_tup a_nil)))))) (ss_one (s_ret (e_tup (a_cons (e_var 2) (a_cons e_str (a_cons (e_op o_add (EOk.bo e_int) (EOk.bo (e_op o_mod (EOk.bo (e_fn d__law_mixed hr tk (a_cons (e_var 0) (a_cons e_int a_nil)))) (EOk.bo (e_callB (c_max2 rfl) m_max (by decide +kernel) (ab_cons (EOk.bo e_int) (ab_cons (EOk.bo (e_op o_sub (b_var 2) (EOk.bo e_int))) ab_nil))))))) a_nil)))))) ss_nil)
    (ss_cons (s_set 5 (f := true) c__law_paper.nd (BOk.eo (b_sub (hu_of hr.r) (b_var 3) (EOk.bo (e_op o_mod (EOk.bo (e_fn d__law_mixed hr tk (a_cons (e_var 0) (a_cons e_int a_nil)))) (EOk.bo (e_callB c_lenX m_len (by decide +kernel) (ab_cons (b_var 3) ab_nil))))))))
    (ss_cons (s_if (WOk.t (w_and (t_cmp (o_eq hr.r) (b_var 4) (EOk.bo e_int)) (w_and1 (t_cmp (o_eq hr.r) (EOk.bo (e_op o_mod (EOk.bo (e_fn d__law_mixed hr tk (a_cons (e_var 0) (a_cons e_int a_nil)))) (EOk.bo e_int))) (EOk.bo e_int))))) (ss_one (s_ret (e_tup (a_cons (e_var 2) (a_cons e_str (a_cons (BOk.eo (b_sub (hu_of hr.r) (b_var 5) (EOk.bo e_int))) a_nil)))))) ss_nil)
    (ss_cons (s_set 6 (f := true) c__law_paper.nd (e_fn d__law_entered hr tk (a_cons (e_var 1) (a_cons (e_var 5) a_nil))))
    (ss_cons (s_set 7 (f := true) c__law_paper.nd (BOk.eo (b_sub (hu_of hr.r) (b_var 6) (EOk.bo (e_op o_mod (EOk.bo (e_fn d__law_mixed hr tk (a_cons (e_var 0) (a_cons e_int a_nil)))) (EOk.bo (e_callB c_lenX m_len (by decide +kernel) (ab_cons (b_var 6) ab_nil))))))))
    (ss_cons (s_if (t_cmp (o_eq hr.r) (b_var 4) (EOk.bo e_int)) (ss_one (s_ret (e_tup (a_cons (e_var 2) (a_cons e_str (a_cons (BOk.eo (b_sub (hu_of hr.r) (b_var 5) (EOk.bo e_int))) (a_cons (e_var 7) (a_cons (e_op o_add (EOk.bo e_int) (EOk.bo (e_op o_mod (EOk.bo (e_fn d__law_mixed hr tk (a_cons (e_var 0) (a_cons e_int a_nil)))) (EOk.bo e_int)))) a_nil)))))))) ss_nil)
    (ss_cons (s_if (t_cmp (o_eq hr.r) (b_var 4) (EOk.bo e_int)) (ss_one (s_ret (e_tup (a_cons (e_var 2) (a_cons e_str (a_cons (BOk.eo (b_sub (hu_of hr.r) (b_var 5) (EOk.bo e_int))) (a_cons (e_var 7) (a_cons (e_ixF (hu_of hr.r) (e_lst (a_cons e_str (a_cons e_str a_nil))) (EOk.bo (e_op o_mod (EOk.bo (e_fn d__law_mixed hr tk (a_cons (e_var 0) (a_cons e_int a_nil)))) (EOk.bo e_int)))) a_nil)))))))) ss_nil)
    (ss_cons (s_if (t_cmp o_lt (b_var 4) (EOk.bo e_int)) (ss_cons (s_set 10 (f := true) c__law_paper.nd (e_lst (a_cons e_str (a_cons e_str (a_cons e_str (a_cons e_str (a_cons e_str (a_cons e_str (a_cons e_str a_nil)))))))))
    (ss_one (s_ret (e_tup (a_cons (e_var 2) (a_cons e_str (a_cons (BOk.eo (b_sub (hu_of hr.r) (b_var 5) (EOk.bo e_int))) (a_cons (e_var 7) (a_cons (BOk.eo (b_sub (hu_of hr.r) (b_var 10) (EOk.bo (e_op o_mod (EOk.bo (e_fn d__law_mixed hr tk (a_cons (e_var 0) (a_cons e_int a_nil)))) (EOk.bo e_int))))) a_nil))))))))) ss_nil)
    (ss_cons (s_set 8 (f := true) c__law_paper.nd (e_op o_mod (EOk.bo (e_op o_mul (EOk.bo (e_fn d__law_mixed hr tk (a_cons (e_var 0) (a_cons e_int a_nil)))) (EOk.bo e_int))) (EOk.bo (e_op o_sub (EOk.bo e_int) (b_sub (hu_of hr.r) (b_var 5) (EOk.bo e_int))))))
    (ss_cons (s_set 9 (f := true) c__law_paper.nd (e_op o_add (b_sub (hu_of hr.r) (b_var 5) (EOk.bo e_int)) (b_sub (hu_of hr.r) (EOk.bo (e_lst (a_cons (e_var 8) (a_cons (e_callB (c_min2 rfl) m_min (by decide +kernel) (ab_cons (b_var 8) (ab_cons (EOk.bo (e_op o_mod (EOk.bo (e_fn d__law_mixed hr tk (a_cons (e_var 0) (a_cons e_int a_nil)))) (EOk.bo e_int))) ab_nil))) (a_cons (e_callB (c_min2 rfl) m_min (by decide +kernel) (ab_cons (EOk.bo (e_op o_sub (EOk.bo e_int) (b_sub (hu_of hr.r) (b_var 5) (EOk.bo e_int)))) (ab_cons (EOk.bo e_int) ab_nil))) a_nil))))) (EOk.bo (e_op o_mod (EOk.bo (e_fn d__law_mixed hr tk (a_cons (e_var 0) (a_cons e_int a_nil)))) (EOk.bo e_int))))))
    (ss_one (s_ret (e_tup (a_cons (e_var 2) (a_cons e_str (a_cons (BOk.eo (b_sub (hu_of hr.r) (b_var 5) (EOk.bo e_int))) (a_cons (e_var 7) (a_cons (e_var 9) a_nil)))))))))))))))))))))) fun _ _ _ _ _ _ us hl => match us, hl with | [_, _, _], _ => rfl
abbrev s__law_more_voids : Stmt := topS 12
abbrev N__law_more_voids : List Str := ["_law_cells", "_law_papers_here", "_law_numbers", "_law_found", "_law_j", "_law_paper_here", "_law_lesser", "_law_mixed_here", "_law_one"]
theorem c__law_more_voids : FnScope N__law_more_voids ["_law_cells", "_law_papers_here"] (defScope s__law_more_voids) := ⟨rfl, rfl, rfl, by decide +kernel, rfl, by decide +kernel, by decide +kernel⟩
theorem o__law_more_voids {P : Program} {w : World} {K : PySem.W.Frag} {mg : Str → Option Value} {base : Heap} {f : Addr} {fd : FuncData} (F : Fun K "_law_more_voids" "_law_more_voids" s__law_more_voids f fd) (g : mg "_law_more_voids" = some (.ref f)) (d__law_mixed : DefOk P w K mg base "_law_mixed" 1 ["_law_cell", "_law_k"] f__law_mixed) (m_enumerate : mg "enumerate" = none) (m_len : mg "len" = none) (m_min : mg "min" = none) (m_sorted : mg "sorted" = none) :
    DefOk P w K mg base "_law_more_voids" 2 ["_law_cells", "_law_papers_here"] f__law_more_voids := DefOk.mk' F g (fn_ok F c__law_more_voids List.nodup_nil (by
  rintro X W cdv A outer s H E rfl hr tk hp
  exact (ss_cons (s_setLc 2 (f := true) (bor := true) (own := [("_law_paper_here", 5)]) rfl c__law_more_voids.nd (i_any (bor := true) (e_var 1)) (blkOk_by (own := [("_law_paper_here", 5)]) (N := N__law_more_voids) (sc := defScope s__law_more_voids) (by decide +kernel)) (by decide) (fun _ _ _ _ _ => (g_nm 5 c__law_more_voids.nd)) (fun _ _ _ _ _ => ts_nil) (fun _ _ _ _ _ => (BOk.eo (b_sub (hu_of hr.r) (b_var 5) (EOk.bo e_int)))))
    (ss_cons (s_set 3 (f := false) c__law_more_voids.nd (e_lst a_nil))
    (ss_cons (s_for hp rfl (i_enum (bor := false) m_enumerate (a_cons (e_var 1) a_nil)) (g_tup rfl (gs_cons (g_nm 4 c__law_more_voids.nd) (gs_cons (g_nm 5 c__law_more_voids.nd) gs_nil)))
    (ss_cons (s_setLc 6 (f := true) (bor := true) (own := [("_law_one", 8)]) rfl c__law_more_voids.nd (i_any (bor := true) (e_var 2)) (blkOk_by (own := [("_law_one", 8)]) (N := N__law_more_voids) (sc := defScope s__law_more_voids) (by decide +kernel)) (by decide) (fun _ _ _ _ _ => (g_nm 8 c__law_more_voids.nd)) (fun _ _ _ _ _ => (ts_one (t_cmp o_lt (b_var 8) (b_sub (hu_of hr.r) (b_var 5) (EOk.bo e_int))))) (fun _ _ _ _ _ => (e_var 8)))
    (ss_cons (s_set 7 (f := true) c__law_more_voids.nd (e_fn d__law_mixed hr tk (a_cons (BOk.eo (b_sub (hu_of hr.r) (b_var 0) (b_var 4))) (a_cons (e_op o_add (EOk.bo e_int) (b_var 4)) a_nil))))
    (ss_cons (s_if (WOk.t (w_and (t_cmp (o_eq hr.r) (EOk.bo (e_op o_mod (b_var 7) (EOk.bo e_int))) (EOk.bo e_int)) (w_and1 (t_cmp (o_ne hr.r) (b_var 6) (EOk.bo (e_lst a_nil)))))) (ss_one (s_set 5 (f := true) c__law_more_voids.nd (e_tup (a_cons (BOk.eo (b_sub (hu_of hr.r) (b_var 5) (EOk.bo e_int))) (a_cons e_str (a_cons (e_ixF (hu_of hr.r) (e_callB c_sortI m_sorted (by decide +kernel) (ab_cons (b_var 6) ab_nil)) (EOk.bo (e_op o_sub (EOk.bo (e_op o_sub (EOk.bo (e_callB c_lenX m_len (by decide +kernel) (ab_cons (b_var 6) ab_nil))) (EOk.bo e_int))) (EOk.bo (e_op o_mod (EOk.bo (e_op o_fdiv (b_var 7) (EOk.bo e_int))) (EOk.bo (e_callB (c_min2 rfl) m_min (by decide +kernel) (ab_cons (EOk.bo e_int) (ab_cons (EOk.bo (e_callB c_lenX m_len (by decide +kernel) (ab_cons (b_var 6) ab_nil))) ab_nil))))))))) a_nil)))))) ss_nil)
    (ss_one (s_mut PySem.F.slot_list_append PySem.F.type_list_append m_append (pl_var 3) (a_cons (e_var 5) a_nil)))))))
    (ss_one (s_retV 3))))))) fun _ _ _ _ _ _ us hl => match us, hl with | [_, _], _ => rfl
abbrev s__law_right : Stmt := topS 14
abbrev N__law_right : List Str := ["_law_papers_here", "_law_handed", "_law_found", "_law_kept"]
theorem c__law_right : FnScope N__law_right ["_law_papers_here"] (defScope s__law_right) := ⟨rfl, rfl, rfl, by decide +kernel, rfl, by decide +kernel, by decide +kernel⟩
theorem o__law_right {P : Program} {w : World} {K : PySem.W.Frag} {mg : Str → Option Value} {base : Heap} {f : Addr} {fd : FuncData} (F : Fun K "_law_right" "_law_right" s__law_right f fd) (g : mg "_law_right" = some (.ref f)) (d_counting : DefOk P w K mg base "counting" 1 ["papers"] f_counting) (d__law_is_due : DefOk P w K mg base "_law_is_due" 1 ["_law_papers_here", "_law_told"] f__law_is_due) (m_list : mg "list" = none) :
    DefOk P w K mg base "_law_right" 2 ["_law_papers_here"] f__law_right := DefOk.mk' F g (fn_ok F c__law_right List.nodup_nil (by
  rintro X W cdv A outer s H E rfl hr tk hp
  exact (ss_cons (s_set 1 (f := false) c__law_right.nd (e_callTy (c_listX rfl) m_list (by decide +kernel) (ab_cons (b_var 0) ab_nil)))
    (ss_cons (s_set 2 (f := false) c__law_right.nd (e_fnL d_counting hr tk (ab_cons (b_var 1) ab_nil)))
    (ss_cons (s_if (WOk.t (w_or (t_not (t_val (e_fnL d__law_is_due hr tk (ab_cons (b_var 0) (ab_cons (b_var 2) ab_nil))))) (w_or1 (t_cmp (o_ne hr.r) (b_var 1) (b_var 0))))) (ss_one (s_ret e_bl)) ss_nil)
    (ss_cons (s_set 3 (f := true) c__law_right.nd (e_callTy (c_listX rfl) m_list (by decide +kernel) (ab_cons (b_var 2) ab_nil)))
    (ss_cons (s_mut0 PySem.F.slot_list_clear PySem.F.type_list_clear m_clear (pl_var 2))
    (ss_cons (s_mut0 PySem.F.slot_list_reverse PySem.F.type_list_reverse m_reverse (pl_var 1))
    (ss_one (s_ret (e_and (e_cmp (o_eq hr.r) (EOk.bo (e_fn d_counting hr tk (a_cons (e_var 0) a_nil))) (b_var 3)) (e_one (e_cmp (o_eq hr.r) (EOk.bo (e_fnL d_counting hr tk (ab_cons (b_var 1) ab_nil))) (b_var 3)))))))))))))) fun _ _ _ _ _ _ us hl => match us, hl with | [_], _ => rfl
abbrev s__law_meeting : Stmt := topS 8
abbrev N__law_meeting : List Str := ["_law_script", "_law_boats", "_law_races", "_law_names_here", "_law_classes", "_law_k", "_law_sails", "_law_fleets", "_law_found", "_law_many", "_law_drops", "_law_told", "_law_rows", "_law_called", "_law_mixed_here", "_law_opening", "_law_boat"]
theorem c__law_meeting : FnScope N__law_meeting ["_law_script", "_law_boats", "_law_races"] (defScope s__law_meeting) := ⟨rfl, rfl, rfl, by decide +kernel, rfl, by decide +kernel, by decide +kernel⟩
theorem o__law_meeting {P : Program} {w : World} {K : PySem.W.Frag} {mg : Str → Option Value} {base : Heap} {f : Addr} {fd : FuncData} (F : Fun K "_law_meeting" "_law_meeting" s__law_meeting f fd) (g : mg "_law_meeting" = some (.ref f)) (d__law_cell_at : DefOk P w K mg base "_law_cell_at" 1 ["_law_script", "_law_k"] f__law_cell_at) (d__law_mixed : DefOk P w K mg base "_law_mixed" 1 ["_law_cell", "_law_k"] f__law_mixed) (d__law_names : DefOk P w K mg base "_law_names" 2 ["_law_cell", "_law_many"] f__law_names) (d__law_handicap : DefOk P w K mg base "_law_handicap" 2 ["_law_cell"] f__law_handicap) (m_len : mg "len" = none) (m_range : mg "range" = none) (m_set : mg "set" = none) (m_sorted : mg "sorted" = none) (m_tuple : mg "tuple" = none) :
    DefOk P w K mg base "_law_meeting" 3 ["_law_script", "_law_boats", "_law_races"] f__law_meeting := DefOk.mk' F g (fn_ok F c__law_meeting List.nodup_nil (by
  rintro X W cdv A outer s H E rfl hr tk hp
  exact (ss_cons (s_set 3 (f := true) c__law_meeting.nd (e_fn d__law_names hr tk (a_cons (e_fn d__law_mixed hr tk (a_cons (e_fn d__law_cell_at hr tk (a_cons (e_var 0) (a_cons e_int a_nil))) (a_cons e_int a_nil))) (a_cons e_int a_nil))))
    (ss_cons (s_set 4 (f := false) c__law_meeting.nd (e_lst a_nil))
    (ss_cons (s_for hp rfl (i_rng1 (bor := false) m_range (ab_cons (EOk.bo (e_op o_add (EOk.bo e_int) (EOk.bo (e_op o_mod (EOk.bo (e_fn d__law_cell_at hr tk (a_cons (e_var 0) (a_cons e_int a_nil)))) (EOk.bo e_int))))) ab_nil)) (g_nm 5 c__law_meeting.nd)
    (ss_one (s_mut PySem.F.slot_list_append PySem.F.type_list_append m_append (pl_var 4) (a_cons (e_tup (a_cons (BOk.eo (b_sub (hu_of hr.r) (b_var 3) (b_var 5))) (a_cons (e_fn d__law_handicap hr tk (a_cons (e_fn d__law_mixed hr tk (a_cons (e_fn d__law_cell_at hr tk (a_cons (e_var 0) (a_cons e_int a_nil))) (a_cons (e_op o_add (EOk.bo e_int) (b_var 5)) a_nil))) a_nil)) a_nil))) a_nil))))
    (ss_cons (s_set 6 (f := true) c__law_meeting.nd (e_fn d__law_names hr tk (a_cons (e_fn d__law_mixed hr tk (a_cons (e_fn d__law_cell_at hr tk (a_cons (e_var 0) (a_cons e_int a_nil))) (a_cons e_int a_nil))) (a_cons e_int a_nil))))
    (ss_cons (s_set 7 (f := true) c__law_meeting.nd (e_slice (EOk.bo (e_fn d__law_names hr tk (a_cons (e_fn d__law_mixed hr tk (a_cons (e_fn d__law_cell_at hr tk (a_cons (e_var 0) (a_cons e_int a_nil))) (a_cons e_int a_nil))) (a_cons e_int a_nil)))) p_none (p_some (EOk.bo (e_op o_add (EOk.bo e_int) (EOk.bo (e_op o_mod (EOk.bo (e_fn d__law_cell_at hr tk (a_cons (e_var 0) (a_cons e_int a_nil)))) (EOk.bo e_int))))))))
    (ss_cons (s_set 8 (f := false) c__law_meeting.nd (e_lst a_nil))
    (ss_cons (s_for hp rfl (i_rng1 (bor := false) m_range (ab_cons (EOk.bo (e_op o_add (EOk.bo e_int) (EOk.bo (e_op o_mod (EOk.bo (e_fn d__law_mixed hr tk (a_cons (e_fn d__law_cell_at hr tk (a_cons (e_var 0) (a_cons e_int a_nil))) (a_cons e_int a_nil)))) (b_var 1))))) ab_nil)) (g_nm 5 c__law_meeting.nd)
    (ss_cons (s_set 14 (f := true) c__law_meeting.nd (e_fn d__law_mixed hr tk (a_cons (e_fn d__law_cell_at hr tk (a_cons (e_var 0) (a_cons e_int a_nil))) (a_cons (e_op o_add (EOk.bo e_int) (b_var 5)) a_nil))))
    (ss_one (s_mut PySem.F.slot_list_append PySem.F.type_list_append m_append (pl_var 8) (a_cons (e_tup (a_cons (BOk.eo (b_sub (hu_of hr.r) (b_var 6) (b_var 5))) (a_cons (BOk.eo (b_sub (hu_of hr.r) (b_sub (hu_of hr.r) (b_var 4) (EOk.bo (e_op o_mod (b_var 14) (EOk.bo (e_callB c_lenX m_len (by decide +kernel) (ab_cons (b_var 4) ab_nil)))))) (EOk.bo e_int))) (a_cons (BOk.eo (b_sub (hu_of hr.r) (b_var 7) (EOk.bo (e_op o_mod (EOk.bo (e_op o_fdiv (b_var 14) (EOk.bo e_int))) (EOk.bo (e_callB c_lenX m_len (by decide +kernel) (ab_cons (b_var 7) ab_nil))))))) a_nil)))) a_nil)))))
    (ss_cons (s_set 9 (f := true) c__law_meeting.nd (e_op o_mod (EOk.bo (e_op o_fdiv (EOk.bo (e_fn d__law_cell_at hr tk (a_cons (e_var 0) (a_cons e_int a_nil)))) (EOk.bo e_int))) (EOk.bo e_int)))
    (ss_cons (s_setLc 10 (f := true) (bor := true) (own := [("_law_k", 5)]) rfl c__law_meeting.nd (i_rng1 (bor := true) m_range (ab_cons (b_var 9) ab_nil)) (blkOk_by (own := [("_law_k", 5)]) (N := N__law_meeting) (sc := defScope s__law_meeting) (by decide +kernel)) (by decide) (fun _ _ _ _ _ => (g_nm 5 c__law_meeting.nd)) (fun _ _ _ _ _ => ts_nil) (fun _ _ _ _ _ => (e_op o_add (EOk.bo e_int) (EOk.bo (e_op o_mod (EOk.bo (e_fn d__law_mixed hr.blk takes0 (a_cons (e_fn d__law_cell_at hr.blk takes0 (a_cons (e_var 0) (a_cons e_int a_nil))) (a_cons (e_op o_add (EOk.bo e_int) (b_var 5)) a_nil)))) (b_sub (hu_of hr.r) (EOk.bo (e_lst (a_cons e_int (a_cons e_int (a_cons e_int a_nil))))) (EOk.bo (e_op o_mod (b_var 5) (EOk.bo e_int)))))))))
    (ss_cons (s_set 11 (f := true) c__law_meeting.nd (e_op o_add (EOk.bo (e_lc rfl c__law_meeting.nd (bor := true) (own := [("_law_boat", 16)]) (i_seqB (b_var 8)) (blkOk_by (own := [("_law_boat", 16)]) (N := N__law_meeting) (sc := defScope s__law_meeting) (by decide +kernel)) (by decide) (fun _ _ _ _ _ => (g_nm 16 c__law_meeting.nd)) (fun _ _ _ _ _ => ts_nil) (fun _ _ _ _ _ => (BOk.eo (b_sub (hu_of hr.r) (b_var 16) (EOk.bo e_int)))))) (EOk.bo (e_lst (a_cons e_str a_nil)))))
    (ss_cons (s_set 12 (f := false) c__law_meeting.nd (e_lst a_nil))
    (ss_cons (s_set 13 (f := true) c__law_meeting.nd (e_fn d__law_names hr tk (a_cons (e_fn d__law_mixed hr tk (a_cons (e_fn d__law_cell_at hr tk (a_cons (e_var 0) (a_cons e_int a_nil))) (a_cons e_int a_nil))) (a_cons e_int a_nil))))
    (ss_cons (s_for hp rfl (i_rng1 (bor := false) m_range (ab_cons (EOk.bo (e_op o_mod (EOk.bo (e_fn d__law_mixed hr tk (a_cons (e_fn d__law_cell_at hr tk (a_cons (e_var 0) (a_cons e_int a_nil))) (a_cons e_int a_nil)))) (EOk.bo (e_op o_add (b_var 2) (EOk.bo e_int))))) ab_nil)) (g_nm 5 c__law_meeting.nd)
    (ss_cons (s_set 14 (f := true) c__law_meeting.nd (e_fn d__law_mixed hr tk (a_cons (e_fn d__law_cell_at hr tk (a_cons (e_var 0) (a_cons e_int a_nil))) (a_cons (e_op o_add (EOk.bo e_int) (b_var 5)) a_nil))))
    (ss_cons (s_set 15 (f := true) c__law_meeting.nd (e_ixF (hu_of hr.r) (e_lst (a_cons e_int (a_cons (e_op o_mod (b_var 14) (EOk.bo e_int)) (a_cons (e_op o_mod (b_var 14) (EOk.bo e_int)) a_nil)))) (EOk.bo (e_op o_mod (b_var 14) (EOk.bo e_int)))))
    (ss_one (s_mut PySem.F.slot_list_append PySem.F.type_list_append m_append (pl_var 12) (a_cons (e_tup (a_cons (BOk.eo (b_sub (hu_of hr.r) (b_var 13) (b_var 5))) (a_cons (BOk.eo (b_sub (hu_of hr.r) (b_var 11) (EOk.bo (e_op o_mod (EOk.bo (e_op o_fdiv (b_var 14) (EOk.bo e_int))) (EOk.bo (e_callB c_lenX m_len (by decide +kernel) (ab_cons (b_var 11) ab_nil))))))) (a_cons (e_var 15) (a_cons (e_op o_mod (EOk.bo (e_op o_fdiv (b_var 14) (EOk.bo e_int))) (b_sub (hu_of hr.r) (EOk.bo (e_lst (a_cons e_int (a_cons e_int (a_cons e_int a_nil))))) (EOk.bo (e_op o_mod (b_var 14) (EOk.bo e_int))))) a_nil))))) a_nil))))))
    (ss_one (s_ret (e_tup (a_cons (e_callTy c_tux m_tuple (by decide +kernel) (ab_cons (b_var 4) ab_nil)) (a_cons (e_callTy c_tuple m_tuple (by decide +kernel) (ab_cons (b_var 8) ab_nil)) (a_cons (e_callTy c_tuple m_tuple (by decide +kernel) (ab_cons (EOk.bo (e_sortSet rfl m_sorted m_set (b_var 10))) ab_nil)) (a_cons (e_callTy c_tuple m_tuple (by decide +kernel) (ab_cons (b_var 12) ab_nil)) a_nil)))))))))))))))))))))) fun _ _ _ _ _ _ us hl => match us, hl with | [_, _, _], _ => rfl
abbrev s__law_papers : Stmt := topS 11
abbrev N__law_papers : List Str := ["_law_cells", "_law_plain", "_law_k", "_law_numbers", "_law_found", "_law_j", "_law_cell", "_law_paper_here", "_law_lesser", "_law_one"]
theorem c__law_papers : FnScope N__law_papers ["_law_cells", "_law_plain", "_law_k"] (defScope s__law_papers) := ⟨rfl, rfl, rfl, by decide +kernel, rfl, by decide +kernel, by decide +kernel⟩
theorem o__law_papers {P : Program} {w : World} {K : PySem.W.Frag} {mg : Str → Option Value} {base : Heap} {f : Addr} {fd : FuncData} (F : Fun K "_law_papers" "_law_papers" s__law_papers f fd) (g : mg "_law_papers" = some (.ref f)) (d__law_mixed : DefOk P w K mg base "_law_mixed" 1 ["_law_cell", "_law_k"] f__law_mixed) (d__law_paper : DefOk P w K mg base "_law_paper" 2 ["_law_cell", "_law_plain", "_law_number"] f__law_paper) (m_enumerate : mg "enumerate" = none) (m_len : mg "len" = none) (m_range : mg "range" = none) :
    DefOk P w K mg base "_law_papers" 3 ["_law_cells", "_law_plain", "_law_k"] f__law_papers := DefOk.mk' F g (fn_ok F c__law_papers List.nodup_nil (by
  rintro X W cdv A outer s H E rfl hr tk hp
  exact (ss_cons (s_set 3 (f := true) c__law_papers.nd (e_lc rfl c__law_papers.nd (bor := true) (own := [("_law_j", 5)]) (i_rng1 (bor := true) m_range (ab_cons (EOk.bo (e_callB c_lenX m_len (by decide +kernel) (ab_cons (b_var 0) ab_nil))) ab_nil)) (blkOk_by (own := [("_law_j", 5)]) (N := N__law_papers) (sc := defScope s__law_papers) (by decide +kernel)) (by decide) (fun _ _ _ _ _ => (g_nm 5 c__law_papers.nd)) (fun _ _ _ _ _ => ts_nil) (fun _ _ _ _ _ => (e_op o_add (EOk.bo e_int) (EOk.bo (e_op o_mod (EOk.bo (e_op o_add (EOk.bo (e_fn d__law_mixed hr.blk takes0 (a_cons (e_var 2) (a_cons e_int a_nil)))) (EOk.bo (e_op o_mul (b_sub (hu_of hr.r) (EOk.bo (e_lst (a_cons e_int (a_cons e_int (a_cons e_int a_nil))))) (EOk.bo (e_op o_mod (b_var 2) (EOk.bo e_int)))) (b_var 5))))) (EOk.bo e_int)))))))
    (ss_cons (s_set 4 (f := false) c__law_papers.nd (e_lst a_nil))
    (ss_cons (s_for hp rfl (i_enum (bor := false) m_enumerate (a_cons (e_var 0) a_nil)) (g_tup rfl (gs_cons (g_nm 5 c__law_papers.nd) (gs_cons (g_nm 6 c__law_papers.nd) gs_nil)))
    (ss_cons (s_set 7 (f := true) c__law_papers.nd (e_fn d__law_paper hr tk (a_cons (e_fn d__law_mixed hr tk (a_cons (e_var 6) (a_cons (e_op o_add (EOk.bo e_int) (b_var 5)) a_nil))) (a_cons (e_var 1) (a_cons (BOk.eo (b_sub (hu_of hr.r) (b_var 3) (b_var 5))) a_nil)))))
    (ss_cons (s_setLc 8 (f := true) (bor := true) (own := [("_law_one", 9)]) rfl c__law_papers.nd (i_any (bor := true) (e_var 3)) (blkOk_by (own := [("_law_one", 9)]) (N := N__law_papers) (sc := defScope s__law_papers) (by decide +kernel)) (by decide) (fun _ _ _ _ _ => (g_nm 9 c__law_papers.nd)) (fun _ _ _ _ _ => (ts_one (t_cmp o_lt (b_var 9) (b_sub (hu_of hr.r) (b_var 3) (b_var 5))))) (fun _ _ _ _ _ => (e_var 9)))
    (ss_cons (s_if (WOk.t (w_and (t_cmp (o_eq hr.r) (b_sub (hu_of hr.r) (b_var 7) (EOk.bo e_int)) (EOk.bo e_str)) (w_and (t_cmp (o_ne hr.r) (b_var 8) (EOk.bo (e_lst a_nil))) (w_and1 (t_cmp o_gt (EOk.bo (e_op o_mod (EOk.bo (e_fn d__law_mixed hr tk (a_cons (e_var 6) (a_cons (e_op o_add (EOk.bo e_int) (b_var 5)) a_nil)))) (EOk.bo e_int))) (EOk.bo e_int)))))) (ss_one (s_set 7 (f := true) c__law_papers.nd (e_tup (a_cons (BOk.eo (b_sub (hu_of hr.r) (b_var 3) (b_var 5))) (a_cons e_str (a_cons (BOk.eo (b_sub (hu_of hr.r) (b_var 8) (EOk.bo (e_op o_mod (EOk.bo (e_fn d__law_mixed hr tk (a_cons (e_var 6) (a_cons (e_op o_add (EOk.bo e_int) (b_var 5)) a_nil)))) (EOk.bo (e_callB c_lenX m_len (by decide +kernel) (ab_cons (b_var 8) ab_nil))))))) a_nil)))))) ss_nil)
    (ss_one (s_mut PySem.F.slot_list_append PySem.F.type_list_append m_append (pl_var 4) (a_cons (e_var 7) a_nil)))))))
    (ss_one (s_retV 4))))))) fun _ _ _ _ _ _ us hl => match us, hl with | [_, _, _], _ => rfl
abbrev s_law : Stmt := topS 15
abbrev N_law : List Str := ["_law_script", "_law_plain", "_law_cells", "_law_papers_here", "_law_k", "_law_at"]
theorem c_law : FnScope N_law ["_law_script"] (defScope s_law) := ⟨rfl, rfl, rfl, by decide +kernel, rfl, by decide +kernel, by decide +kernel⟩
theorem o_law {P : Program} {w : World} {K : PySem.W.Frag} {mg : Str → Option Value} {base : Heap} {f : Addr} {fd : FuncData} (F : Fun K "law" "law" s_law f fd) (d_counting : DefOk P w K mg base "counting" 1 ["papers"] f_counting) (d__law_cell_at : DefOk P w K mg base "_law_cell_at" 1 ["_law_script", "_law_k"] f__law_cell_at) (d__law_mixed : DefOk P w K mg base "_law_mixed" 1 ["_law_cell", "_law_k"] f__law_mixed) (d__law_meeting : DefOk P w K mg base "_law_meeting" 3 ["_law_script", "_law_boats", "_law_races"] f__law_meeting) (d__law_papers : DefOk P w K mg base "_law_papers" 3 ["_law_cells", "_law_plain", "_law_k"] f__law_papers) (d__law_more_voids : DefOk P w K mg base "_law_more_voids" 2 ["_law_cells", "_law_papers_here"] f__law_more_voids) (d__law_right : DefOk P w K mg base "_law_right" 2 ["_law_papers_here"] f__law_right) (m_len : mg "len" = none) (m_list : mg "list" = none) (m_min : mg "min" = none) (m_range : mg "range" = none) :
    FnG P w K mg base 4 f fd ["_law_script"] (spF ⟨K, mg⟩ 1 [] f_law) := (fn_ok F c_law List.nodup_nil (by
  rintro X W cdv A outer s H E rfl hr tk hp
  exact (ss_cons (s_set 1 (f := true) c_law.nd (e_fn d__law_meeting hr tk (a_cons (e_var 0) (a_cons e_int (a_cons e_int a_nil)))))
    (ss_cons (s_set 2 (f := true) c_law.nd (e_callTy (c_listX rfl) m_list (by decide +kernel) (ab_cons (EOk.bo (e_slice (b_var 0) (p_some (EOk.bo e_int)) (p_some (EOk.bo e_int)))) ab_nil)))
    (ss_cons (s_set 3 (f := true) c_law.nd (e_fn d__law_papers hr tk (a_cons (e_var 2) (a_cons (e_var 1) (a_cons (e_fn d__law_mixed hr tk (a_cons (e_fn d__law_cell_at hr tk (a_cons (e_var 0) (a_cons e_int a_nil))) (a_cons e_int a_nil))) a_nil)))))
    (ss_cons (s_if (t_cmp (o_eq hr.r) (EOk.bo (e_op o_mod (EOk.bo (e_fn d__law_cell_at hr tk (a_cons (e_var 0) (a_cons e_int a_nil)))) (EOk.bo e_int))) (EOk.bo e_int)) (ss_one (s_set 3 (f := true) c_law.nd (e_fn d__law_more_voids hr tk (a_cons (e_var 2) (a_cons (e_var 3) a_nil))))) ss_nil)
    (ss_cons (s_for hp rfl (i_rng1 (bor := false) m_range (ab_cons (EOk.bo e_int) ab_nil)) (g_nm 4 c_law.nd)
    (ss_cons (s_set 5 (f := true) c_law.nd (e_op o_mod (EOk.bo (e_fn d__law_mixed hr tk (a_cons (e_fn d__law_cell_at hr tk (a_cons (e_var 0) (a_cons e_int a_nil))) (a_cons (e_op o_add (EOk.bo e_int) (b_var 4)) a_nil)))) (EOk.bo (e_op o_add (EOk.bo (e_callB c_lenX m_len (by decide +kernel) (ab_cons (b_var 3) ab_nil))) (EOk.bo e_int)))))
    (ss_one (s_if (WOk.t (w_or (t_not (t_val (e_fn d__law_right hr tk (a_cons (e_op o_add (EOk.bo (e_slice (b_var 3) (p_some (b_var 5)) p_none)) (EOk.bo (e_slice (b_var 3) p_none (p_some (b_var 5))))) a_nil)))) (w_or1 (t_not (t_val (e_fn d__law_right hr tk (a_cons (e_op o_add (EOk.bo (e_rev (EOk.bo (e_slice (b_var 3) p_none (p_some (b_var 5)))))) (EOk.bo (e_slice (b_var 3) (p_some (b_var 5)) p_none))) a_nil))))))) (ss_one (s_ret e_bl)) ss_nil))))
    (ss_cons (s_for hp rfl (i_rng1 (bor := false) m_range (ab_cons (EOk.bo (e_callB (c_min2 rfl) m_min (by decide +kernel) (ab_cons (EOk.bo e_int) (ab_cons (EOk.bo (e_callB c_lenX m_len (by decide +kernel) (ab_cons (b_var 3) ab_nil))) ab_nil)))) ab_nil)) (g_nm 4 c_law.nd)
    (ss_one (s_if (t_not (t_val (e_fn d__law_right hr tk (a_cons (e_op o_add (EOk.bo (e_slice (b_var 3) p_none (p_some (b_var 4)))) (EOk.bo (e_slice (b_var 3) (p_some (EOk.bo (e_op o_add (b_var 4) (EOk.bo e_int)))) p_none))) a_nil)))) (ss_one (s_ret e_bl)) ss_nil)))
    (ss_one (s_ret (e_cmp (o_eq hr.r) (EOk.bo (e_fn d_counting hr tk (a_cons (e_lst a_nil) a_nil))) (EOk.bo (e_lst a_nil)))))))))))))
def h_law : He.DefD := ⟨("law", none), "law", "law", defArgs s_law, defBody s_law, defScope s_law, [], []⟩
def h_counting : He.DefD := ⟨("counting", none), "counting", "counting", defArgs s_counting, defBody s_counting, defScope s_counting, [], []⟩
def h__law_cell_at : He.DefD := ⟨("_law_cell_at", none), "_law_cell_at", "_law_cell_at", defArgs s__law_cell_at, defBody s__law_cell_at, defScope s__law_cell_at, [], []⟩
def h__law_mixed : He.DefD := ⟨("_law_mixed", none), "_law_mixed", "_law_mixed", defArgs s__law_mixed, defBody s__law_mixed, defScope s__law_mixed, [], []⟩
def h__law_names : He.DefD := ⟨("_law_names", none), "_law_names", "_law_names", defArgs s__law_names, defBody s__law_names, defScope s__law_names, [], []⟩
def h__law_handicap : He.DefD := ⟨("_law_handicap", none), "_law_handicap", "_law_handicap", defArgs s__law_handicap, defBody s__law_handicap, defScope s__law_handicap, [], []⟩
def h__law_meeting : He.DefD := ⟨("_law_meeting", none), "_law_meeting", "_law_meeting", defArgs s__law_meeting, defBody s__law_meeting, defScope s__law_meeting, [], []⟩
def h__law_entered : He.DefD := ⟨("_law_entered", none), "_law_entered", "_law_entered", defArgs s__law_entered, defBody s__law_entered, defScope s__law_entered, [], []⟩
def h__law_paper : He.DefD := ⟨("_law_paper", none), "_law_paper", "_law_paper", defArgs s__law_paper, defBody s__law_paper, defScope s__law_paper, [], []⟩
def h__law_papers : He.DefD := ⟨("_law_papers", none), "_law_papers", "_law_papers", defArgs s__law_papers, defBody s__law_papers, defScope s__law_papers, [], []⟩
def h__law_more_voids : He.DefD := ⟨("_law_more_voids", none), "_law_more_voids", "_law_more_voids", defArgs s__law_more_voids, defBody s__law_more_voids, defScope s__law_more_voids, [], []⟩
def h__law_is_due : He.DefD := ⟨("_law_is_due", none), "_law_is_due", "_law_is_due", defArgs s__law_is_due, defBody s__law_is_due, defScope s__law_is_due, [], []⟩
def h__law_right : He.DefD := ⟨("_law_right", none), "_law_right", "_law_right", defArgs s__law_right, defBody s__law_right, defScope s__law_right, [], []⟩
def fn : List He.DefD := [h_law, h_counting, h__law_cell_at, h__law_mixed, h__law_names, h__law_handicap, h__law_meeting, h__law_entered, h__law_paper, h__law_papers, h__law_more_voids, h__law_is_due, h__law_right]
def fa : List FaB := [fB (.glo "law"), fB (.str "VOID" "void"), fB (.free "sorted"), fLam "counting" "counting", fB (.glo "counting"), fB (.free "len"), fB (.glo "_law_cell_at"), fB (.glo "_law_mixed"), fB (.free "range"), fB (.glo "_law_names"), fB (.glo "_law_handicap"), fB (.free "set"), fB (.free "tuple"), fB (.glo "_law_meeting"), fB (.glo "_law_entered"), fB (.free "max"), fB (.free "min"), fB (.glo "_law_paper"), fB (.free "enumerate"), fB (.glo "_law_papers"), fB (.glo "_law_more_voids"), fSys, fB (.free "dict"), fB (.free "isinstance"), fB (.free "list"), fB (.free "repr"), fB (.glo "_law_is_due"), fB (.glo "_law_right")]
def loose : List PySem.Str := "VOID" :: "counting" :: "_law_cell_at" :: "_law_mixed" :: "_law_names" :: "_law_handicap" :: "_law_meeting" :: "_law_entered" :: "_law_paper" :: "_law_papers" :: "_law_more_voids" :: "_law_is_due" :: "_law_right" :: []
abbrev R : PySem.W.OpenRow := PySem.W.OpenLaw.row PySem.Challenge.rw_regattaroll_k22_whole_what_counts
abbrev hk : PySem.W.Hook := hookR 6 fa fn
def ob (s : PySem.W.SharedT) : He.AlD := obsRG 6 fa fn (HandSHeadRun.getT s)
theorem ob_eq (s : PySem.W.SharedT) : ob s = hk.obs s.abs := obsRG_eq (HandSHeadRun.getT_eq s)
theorem run (w : World) : HandSHeadRun.RunEq R (PySem.W.view R.prog [15]) hk ob 30000 loose w := by
  intro os
  kernel_rfl
theorem facts (law_true : ∀ ns : List Int, ns.length ≤ 63 → ∃ os, f_law [.scr ns] = .ok (.bl true) os) {P : Program} {w : World} {K : PySem.W.Frag} {h : Heap} {mg : Str → Option Value} {f : Addr} (X : K.In h) (G : h.Ns mainGlobals mg) (hfa : mg ("law" : Str) = some (.ref f)) (c : SaysR fa fn K) :
    ∃ (fd : FuncData) (φ : List D → FR), (∀ (s : Shared) (u : Value), BindsTo s fd ⟨[u], []⟩ [("_law_script", u)]) ∧ (∀ ns : List Int, ns.length ≤ 63 → ∃ os, φ [.scr ns] = .ok (.bl true) os) ∧ ∀ base : Heap, K.In base → base.Ns mainGlobals mg → TabsB K mg base → FnG P w K mg base 4 f fd ["_law_script"] (spF ⟨K, mg⟩ 1 [] φ) := by
  have gl := He.glo_ok X G (c.fact 0 (f := fB (.glo "law")) rfl)
  have e := hfa.symm.trans gl
  cases e
  obtain ⟨fd_law, F_law⟩ := (c.def_ 0 (d := h_law) rfl)
  refine ⟨fd_law, f_law, fun s u => FunD.bindsA (ps := ["_law_script"]) F_law (fun _ _ _ _ _ _ us hl => match us, hl with | [_], _ => rfl) s [u] rfl, law_true, fun base kb _ tabs => ?_⟩
  have m_VOID : ∃ t, mg "VOID" = some (.str "void" t) := He.str_ok X G (c.fact 1 (f := fB (.str "VOID" "void")) rfl)
  have m_sorted : mg "sorted" = none := He.free_ok X G (c.fact 2 (f := fB (.free "sorted")) rfl)
  have lam_counting : LamCod K mg base (He.ga K "counting") "counting" := lam_ok X G kb tabs (c.fact 3 (f := fLam "counting" "counting") rfl) (He.glo_ok X G (c.fact 4 (f := fB (.glo "counting")) rfl))
  obtain ⟨fd_counting, F_counting⟩ := (c.def_ 1 (d := h_counting) rfl)
  have d_counting : DefOk P w K mg base "counting" 1 ["papers"] f_counting := o_counting (fun_of F_counting) (He.glo_ok X G (c.fact 4 (f := fB (.glo "counting")) rfl)) lam_counting m_VOID m_sorted
  have m_len : mg "len" = none := He.free_ok X G (c.fact 5 (f := fB (.free "len")) rfl)
  obtain ⟨fd__law_cell_at, F__law_cell_at⟩ := (c.def_ 2 (d := h__law_cell_at) rfl)
  have d__law_cell_at : DefOk P w K mg base "_law_cell_at" 1 ["_law_script", "_law_k"] f__law_cell_at := o__law_cell_at (fun_of F__law_cell_at) (He.glo_ok X G (c.fact 6 (f := fB (.glo "_law_cell_at")) rfl)) m_len
  obtain ⟨fd__law_mixed, F__law_mixed⟩ := (c.def_ 3 (d := h__law_mixed) rfl)
  have d__law_mixed : DefOk P w K mg base "_law_mixed" 1 ["_law_cell", "_law_k"] f__law_mixed := o__law_mixed (fun_of F__law_mixed) (He.glo_ok X G (c.fact 7 (f := fB (.glo "_law_mixed")) rfl)) 
  have m_range : mg "range" = none := He.free_ok X G (c.fact 8 (f := fB (.free "range")) rfl)
  obtain ⟨fd__law_names, F__law_names⟩ := (c.def_ 4 (d := h__law_names) rfl)
  have d__law_names : DefOk P w K mg base "_law_names" 2 ["_law_cell", "_law_many"] f__law_names := o__law_names (fun_of F__law_names) (He.glo_ok X G (c.fact 9 (f := fB (.glo "_law_names")) rfl)) d__law_mixed m_range
  obtain ⟨fd__law_handicap, F__law_handicap⟩ := (c.def_ 5 (d := h__law_handicap) rfl)
  have d__law_handicap : DefOk P w K mg base "_law_handicap" 2 ["_law_cell"] f__law_handicap := o__law_handicap (fun_of F__law_handicap) (He.glo_ok X G (c.fact 10 (f := fB (.glo "_law_handicap")) rfl)) d__law_mixed
  have m_set : mg "set" = none := He.free_ok X G (c.fact 11 (f := fB (.free "set")) rfl)
  have m_tuple : mg "tuple" = none := He.free_ok X G (c.fact 12 (f := fB (.free "tuple")) rfl)
  obtain ⟨fd__law_meeting, F__law_meeting⟩ := (c.def_ 6 (d := h__law_meeting) rfl)
  have d__law_meeting : DefOk P w K mg base "_law_meeting" 3 ["_law_script", "_law_boats", "_law_races"] f__law_meeting := o__law_meeting (fun_of F__law_meeting) (He.glo_ok X G (c.fact 13 (f := fB (.glo "_law_meeting")) rfl)) d__law_cell_at d__law_mixed d__law_names d__law_handicap m_len m_range m_set m_sorted m_tuple
  obtain ⟨fd__law_entered, F__law_entered⟩ := (c.def_ 7 (d := h__law_entered) rfl)
  have d__law_entered : DefOk P w K mg base "_law_entered" 1 ["_law_plain", "_law_race"] f__law_entered := o__law_entered (fun_of F__law_entered) (He.glo_ok X G (c.fact 14 (f := fB (.glo "_law_entered")) rfl)) 
  have m_max : mg "max" = none := He.free_ok X G (c.fact 15 (f := fB (.free "max")) rfl)
  have m_min : mg "min" = none := He.free_ok X G (c.fact 16 (f := fB (.free "min")) rfl)
  obtain ⟨fd__law_paper, F__law_paper⟩ := (c.def_ 8 (d := h__law_paper) rfl)
  have d__law_paper : DefOk P w K mg base "_law_paper" 2 ["_law_cell", "_law_plain", "_law_number"] f__law_paper := o__law_paper (fun_of F__law_paper) (He.glo_ok X G (c.fact 17 (f := fB (.glo "_law_paper")) rfl)) d__law_mixed d__law_entered m_len m_max m_min
  have m_enumerate : mg "enumerate" = none := He.free_ok X G (c.fact 18 (f := fB (.free "enumerate")) rfl)
  obtain ⟨fd__law_papers, F__law_papers⟩ := (c.def_ 9 (d := h__law_papers) rfl)
  have d__law_papers : DefOk P w K mg base "_law_papers" 3 ["_law_cells", "_law_plain", "_law_k"] f__law_papers := o__law_papers (fun_of F__law_papers) (He.glo_ok X G (c.fact 19 (f := fB (.glo "_law_papers")) rfl)) d__law_mixed d__law_paper m_enumerate m_len m_range
  obtain ⟨fd__law_more_voids, F__law_more_voids⟩ := (c.def_ 10 (d := h__law_more_voids) rfl)
  have d__law_more_voids : DefOk P w K mg base "_law_more_voids" 2 ["_law_cells", "_law_papers_here"] f__law_more_voids := o__law_more_voids (fun_of F__law_more_voids) (He.glo_ok X G (c.fact 20 (f := fB (.glo "_law_more_voids")) rfl)) d__law_mixed m_enumerate m_len m_min m_sorted
  have sk : SysK K := sys_ok (c.fact 21 (f := fSys) rfl)
  have m_dict : mg "dict" = none := He.free_ok X G (c.fact 22 (f := fB (.free "dict")) rfl)
  have m_isinstance : mg "isinstance" = none := He.free_ok X G (c.fact 23 (f := fB (.free "isinstance")) rfl)
  have m_list : mg "list" = none := He.free_ok X G (c.fact 24 (f := fB (.free "list")) rfl)
  have m_repr : mg "repr" = none := He.free_ok X G (c.fact 25 (f := fB (.free "repr")) rfl)
  obtain ⟨fd__law_is_due, F__law_is_due⟩ := (c.def_ 11 (d := h__law_is_due) rfl)
  have d__law_is_due : DefOk P w K mg base "_law_is_due" 1 ["_law_papers_here", "_law_told"] f__law_is_due := o__law_is_due (fun_of F__law_is_due) (He.glo_ok X G (c.fact 26 (f := fB (.glo "_law_is_due")) rfl)) sk m_dict m_isinstance m_list m_repr m_sorted
  obtain ⟨fd__law_right, F__law_right⟩ := (c.def_ 12 (d := h__law_right) rfl)
  have d__law_right : DefOk P w K mg base "_law_right" 2 ["_law_papers_here"] f__law_right := o__law_right (fun_of F__law_right) (He.glo_ok X G (c.fact 27 (f := fB (.glo "_law_right")) rfl)) d_counting d__law_is_due m_list
  exact o_law (fun_of F_law) d_counting d__law_cell_at d__law_mixed d__law_meeting d__law_papers d__law_more_voids d__law_right m_len m_list m_min m_range
theorem holds (law_true : ∀ ns : List Int, ns.length ≤ 63 → ∃ os, f_law [.scr ns] = .ok (.bl true) os) : PySem.Challenge.rw_regattaroll_k22_whole_what_counts.Holds := by
  w_on; o_law
  refine HandSHeadRun.head_any (r := R) (q := PySem.W.view R.prog [15]) (H := hk) (ob := ob) (M := 30000) (loose := loose) (d := HandSHeadRun.topDef R.prog 15) (kwd := []) ob_eq
    (by kernel_rfl) (fun s => by kernel_rfl) run (by kernel_rfl) (by kernel_rfl) (by kernel_rfl) (by rfl) (by first | assumption | decide +kernel) (by decide +kernel) ⟨rfl, rfl, rfl, rfl, rfl, by decide +kernel⟩ ?hw ?hc
  case hw => w_witness2
  case hc =>
    refine walkG (l := PySem.Challenge.rw_regattaroll_k22_whole_what_counts) (n := 63) (k := 4) (x := "_law_script") rfl (by decide) (by kernel_rfl) ⟨rfl, by decide, by decide⟩ ?F
    intro w mg fa h Y G hmg0
    obtain ⟨K, KX, c, TK⟩ := Y
    have hmg : mg ("law" : PySem.Str) = some (.ref fa) := by
      have e : (HandSHeadRun.topDef R.prog 15).name = ("law" : PySem.Str) := by kernel_rfl
      rw [← e]
      exact hmg0
    obtain ⟨fd, φ, hb, hφ, hF⟩ := facts law_true (P := R.prog) (w := w) KX G hmg c
    exact ⟨K, fd, φ, KX, TK, hb, hφ, hF⟩
end Lk22
theorem PySem.Challenge.cw_regattaroll_k22_whole_what_counts_holds : PySem.Challenge.rw_regattaroll_k22_whole_what_counts.Holds :=
  Lk22.holds Lk22.law_true
