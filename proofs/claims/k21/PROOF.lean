import PyProof.Rows.All
import Wide.All
import OpenK.AllK
import Wide.FinOn
import HandS.ForMost
import HandS.Exc
import HandS.TryOnly
import HandS.ExcOwn
import HandS.WordsExc
import HandS.Lambda
import HandS.Wide
import HandS.Style
import HandS.Deep
import HandS.IsInst
import HandS.StrMore
import HandS.RaiseMore
import HandS.Head0
import HandS.Head1
import HandS.Head2
import HandS.HeadEnd
import HandS.HeadHook1
import HandS.HeadHook2
import HandS.FStr
import PyProof.StrLawsRepr
import HandS.Finally
import HandS.TryMany
import HandS.ExcIs
import HandS.Codes
import HandS.Conv
import KE.KDictSum
import PyProof.TupleOfGen
import HandS.ListItems
import HandS.WordsDict
import HandS.SetFor
import HandS.Strs
import KE.KDictPairs
import KE.SortData
import KE.SortKeyHeap
import HandS.SortInts
import KE.GoesMore
import KE.KEqDict
import HandS.More
import HandS.Remove
import KE.KDictZip
import KE.KAssignIn
import PyProof.EqKinds
import HandS.FltList
import HandS.HeadHook3
import KE.KStateDown
import Lean
import PySem.Challenge.RW_regattaroll_k21_papers_written_and_read
import HandS.TupAny
set_option Elab.async false
set_option linter.all false
set_option maxRecDepth 100000
set_option maxHeartbeats 8000000
namespace RL
open PySem PySem.Spec PyProof.Rows L2
abbrev Sl := L2.St
inductive D where
  | non | bl (b : Bool) | int (i : Int) | str (x : Str)
  | tup (ds : List D)
  | lst (o : Bool) (ds : List D)
  | dct (o : Bool) (ks : List Key) (ds : List D)
  | obj (o : Bool) (c : Str) (ns : List Str) (ds : List D)
  | exn (c : Str) (ns : List Str) (ds : List D)
    | scr (ns : List Int)
    | tux (ds : List D)
mutual
def D.clean : D → Bool
  | .tup ds => cleanL ds
  | .tux ds => cleanL ds
  | .lst o ds => !o && cleanL ds
  | .dct o _ ds => !o && cleanL ds
  | .obj o _ _ ds => !o && cleanL ds
  | _ => true
def cleanL : List D → Bool
  | [] => true
  | d :: ds => d.clean && cleanL ds
end
mutual
def D.frz : D → D
  | .tup ds => .tup (frzL ds)
  | .tux ds => .tux (frzL ds)
  | .lst _ ds => .lst false (frzL ds)
  | .dct _ ks ds => .dct false ks (frzL ds)
  | .obj _ c ns ds => .obj false c ns (frzL ds)
  | d => d
def frzL : List D → List D
  | [] => []
  | d :: ds => d.frz :: frzL ds
end
structure Gd where
  K : PySem.W.Frag
  mg : Str → Option Value
def tabOf (o : Obj) : Option (Addr × Str) := match o.data, o.cls with
  | .fields vs, .type t => (match vs.getD 11 .none, vs.getD 18 .none, vs.getD 7 .none, vs.getD 9 .none, vs.getD 10 .none, vs.getD 1 .none with
    | .ref T, .str _ _, .int _ _, .bool _, .int _ _, .str q _ => if t = "code" then some (T, q ++ ".<locals>." ++ "<lambda>") else none
    | _, _, _, _, _, _ => none)
  | _, _ => none
theorem tabOf_code {o : Obj} {T : Addr} {q : Str} (e : tabOf o = some (T, q)) {h : Heap} {c : Addr} (hc : h.get? c = some o) (ne : c ≠ T) : PySem.W.CodeHd h c T := by
  obtain ⟨cls, dct, dat, sl⟩ := o
  unfold tabOf at e
  split at e
  · rename_i vs t hd hcl
    simp only at hd hcl
    subst hd
    subst hcl
    split at e
    · rename_i T' s18 t18 i7 t7 b9 i10 t10 q' t1 h11 h18 h7 h9 h10 h1
      split at e
      · rename_i ht
        subst ht
        have e' := Prod.mk.inj (Option.some.inj e)
        obtain ⟨rfl, _⟩ := e'
        have h11' : vs[11]? = some (.ref T') := by
          rw [Array.getD_eq_getD_getElem?] at h11
          cases z : vs[11]? with
          | none => rw [z] at h11; cases h11
          | some w => rw [z] at h11; exact congrArg some h11
        exact ⟨_, vs, _, _, _, _, _, _, _, hc, rfl, rfl, h11', h11, h18, h7, h9, h10, ne⟩
      · cases e
    · cases e
  · cases e
def tabsOf (K : PySem.W.Frag) : List (Addr × Str) := K.filterMap fun p => tabOf p.2
abbrev mark (q : Str) : HO := .tbl #[.int (-1) 0, .int (-1) 0, .str q 0]
def Marks (G : Gd) (P : Hp) : Prop := ∀ p ∈ tabsOf G.K, P p.1 = some (mark p.2)
theorem Marks.mono {G : Gd} {P P' : Hp} (m : Marks G P) (s : Same P P') : Marks G P' := fun p hp => s _ _ (m p hp)
def ExT (cls : Value) (d : Option Addr) (a : Addr) : HO := .ext fun h => ∃ (oe : Obj) (vs : Array Value), h.get? a = some oe ∧ oe.cls = cls ∧ oe.dict = d ∧ oe.data = .fields vs
def D.flat? : D → Option V
  | .non => some .non
  | .bl b => some (.bl b)
  | .int i => some (.int i)
  | .str x => some (.str x)
  | _ => none
def XF (P : Hp) (dx : Option Addr) (ns : List Str) (ds : List D) : Prop := (ns = [] ∧ ds = [] ∧ dx = none) ∨ ns ≠ [] ∧ ∃ d vs, dx = some d ∧ P d = some (.xd (ns.zip vs)) ∧ ns.length = vs.length ∧ ds.mapM D.flat? = some vs
theorem XF.mono {P P' : Hp} {dx : Option Addr} {ns : List Str} {ds : List D} (s : Same P P') (h : XF P dx ns ds) : XF P' dx ns ds := by
  rcases h with h | ⟨h0, d, vs, h1, h2, h3, h4⟩
  · exact .inl h
  · exact .inr ⟨h0, d, vs, h1, s _ _ h2, h3, h4⟩
mutual
inductive Rel (G : Gd) (P H : Hp) : V → D → List Addr → Prop
  | non : Rel G P H .non .non []
  | bl (b : Bool) : Rel G P H (.bl b) (.bl b) []
  | int (i : Int) : Rel G P H (.int i) (.int i) []
  | str (x : Str) : Rel G P H (.str x) (.str x) []
  | tup {a : Addr} {xs : List V} {ds : List D} {A : List Addr} : SqT G.K P a xs → RelL G P H xs ds A → Rel G P H (.ref a) (.tup ds) A
  | tux {a : Addr} {o : Obj} {xs : List V} {ds : List D} : P a = some (.frz o (.tup xs)) → o.dict = none → RelL G P H xs ds [] → Rel G P H (.ref a) (.tux ds) []
  | scr {a : Addr} {ns : List Int} : SqL G.K P a (ns.map V.int) → Rel G P H (.ref a) (.scr ns) []
  | lstF {a : Addr} {xs : List V} {ds : List D} : P a = some (.lst xs) → RelL G P H xs ds [] → Rel G P H (.ref a) (.lst false ds) []
  | lstO {a : Addr} {xs : List V} {ds : List D} {A : List Addr} : H a = some (.lst xs) → RelL G P H xs ds A → Rel G P H (.ref a) (.lst true ds) (a :: A)
  | dctF {a : Addr} {ks : List Key} {vs : List V} {ds : List D} : P a = some (.dK (ks.zip vs)) → ks.length = vs.length → RelL G P H vs ds [] → Rel G P H (.ref a) (.dct false ks ds) []
  | dctO {a : Addr} {ks : List Key} {vs : List V} {ds : List D} {A : List Addr} : H a = some (.dK (ks.zip vs)) → ks.length = vs.length → RelL G P H vs ds A → Rel G P H (.ref a) (.dct true ks ds) (a :: A)
  | objF {a dx C : Addr} {c : Str} {ns : List Str} {vs : List V} {ds : List D} : G.mg c = some (.ref C) → P a = some (.ins C dx (ns.zip vs)) → ns.length = vs.length → RelL G P H vs ds [] → Rel G P H (.ref a) (.obj false c ns ds) []
  | objO {a dx C : Addr} {c : Str} {ns : List Str} {vs : List V} {ds : List D} {A : List Addr} : G.mg c = some (.ref C) → H a = some (.ins C dx (ns.zip vs)) → ns.length = vs.length → RelL G P H vs ds A → Rel G P H (.ref a) (.obj true c ns ds) (a :: A)
  | exn {a C : Addr} {dx : Option Addr} {c : Str} {ns : List Str} {ds : List D} : G.mg c = some (.ref C) → P a = some (ExT (.ref C) dx a) → XF P dx ns ds → Rel G P H (.ref a) (.exn c ns ds) []
inductive RelL (G : Gd) (P H : Hp) : List V → List D → List Addr → Prop
  | nil : RelL G P H [] [] []
  | cons {v : V} {d : D} {A : List Addr} {vs : List V} {ds : List D} {B : List Addr} : Rel G P H v d A → RelL G P H vs ds B → RelL G P H (v :: vs) (d :: ds) (A ++ B)
end
theorem Same.sqT {K : PySem.W.Frag} {H H' : Hp} {a : Addr} {xs : List V} (e : Same H H') (h : SqT K H a xs) : SqT K H' a xs := by
  rcases h with (h | ⟨o, h⟩) | h
  · exact .inl (.inl (e _ _ h))
  · exact .inl (.inr ⟨o, e _ _ h⟩)
  · exact .inr h
section
variable {G : Gd} {P P' H H' : Hp}
mutual
theorem Rel.mono (s : Same P P') : ∀ {v : V} {d : D} {A : List Addr}, (∀ b ∈ A, H' b = H b) → Rel G P H v d A → Rel G P' H' v d A
  | _, _, _, _, .non => .non
  | _, _, _, _, .bl b => .bl b
  | _, _, _, _, .int i => .int i
  | _, _, _, _, .str x => .str x
  | _, _, _, h, .tup q r => .tup (Same.sqT s q) (RelL.mono s h r)
  | _, _, _, h, .scr q => .scr (Same.seq s q)
  | _, _, _, h, .tux q e r => .tux (s _ _ q) e (RelL.mono s (by simp) r)
  | _, _, _, h, .lstF q r => .lstF (s _ _ q) (RelL.mono s (by simp) r)
  | _, _, _, h, .lstO q r => .lstO (by rw [h _ List.mem_cons_self]; exact q) (RelL.mono s (fun b hb => h b (List.mem_cons_of_mem _ hb)) r)
  | _, _, _, h, .dctF q l r => .dctF (s _ _ q) l (RelL.mono s (by simp) r)
  | _, _, _, h, .dctO q l r => .dctO (by rw [h _ List.mem_cons_self]; exact q) l (RelL.mono s (fun b hb => h b (List.mem_cons_of_mem _ hb)) r)
  | _, _, _, h, .objF c q l r => .objF c (s _ _ q) l (RelL.mono s (by simp) r)
  | _, _, _, h, .objO c q l r => .objO c (by rw [h _ List.mem_cons_self]; exact q) l (RelL.mono s (fun b hb => h b (List.mem_cons_of_mem _ hb)) r)
  | _, _, _, h, .exn c q x => .exn c (s _ _ q) (x.mono s)
theorem RelL.mono (s : Same P P') : ∀ {vs : List V} {ds : List D} {A : List Addr}, (∀ b ∈ A, H' b = H b) → RelL G P H vs ds A → RelL G P' H' vs ds A
  | _, _, _, _, .nil => .nil
  | _, _, _, h, .cons r t => .cons (Rel.mono s (fun b hb => h b (List.mem_append_left _ hb)) r) (RelL.mono s (fun b hb => h b (List.mem_append_right _ hb)) t)
end
mutual
theorem Rel.at : ∀ {v : V} {d : D} {A : List Addr}, Rel G P H v d A → ∀ b ∈ A, ∃ o, H b = some o
  | _, _, _, .tup _ r, b, hb => RelL.at r b hb
  | _, _, _, .lstO q r, b, hb => (List.mem_cons.mp hb).elim (fun e => e ▸ ⟨_, q⟩) (RelL.at r b)
  | _, _, _, .dctO q _ r, b, hb => (List.mem_cons.mp hb).elim (fun e => e ▸ ⟨_, q⟩) (RelL.at r b)
  | _, _, _, .objO _ q _ r, b, hb => (List.mem_cons.mp hb).elim (fun e => e ▸ ⟨_, q⟩) (RelL.at r b)
  | _, _, _, .non, b, hb => by simp at hb
  | _, _, _, .bl _, b, hb => by simp at hb
  | _, _, _, .int _, b, hb => by simp at hb
  | _, _, _, .str _, b, hb => by simp at hb
  | _, _, _, .lstF _ _, b, hb => by simp at hb
  | _, _, _, .scr _, b, hb => by simp at hb
  | _, _, _, .tux _ _ _, b, hb => by simp at hb
  | _, _, _, .dctF _ _ _, b, hb => by simp at hb
  | _, _, _, .objF _ _ _ _, b, hb => by simp at hb
  | _, _, _, .exn _ _ _, b, hb => by simp at hb
theorem RelL.at : ∀ {vs : List V} {ds : List D} {A : List Addr}, RelL G P H vs ds A → ∀ b ∈ A, ∃ o, H b = some o
  | _, _, _, .nil, b, hb => by simp at hb
  | _, _, _, .cons r t, b, hb => (List.mem_append.mp hb).elim (Rel.at r b) (RelL.at t b)
end
mutual
theorem Rel.unl : ∀ {v : V} {d : D} {A : List Addr}, Rel G P H v d A → ∀ b ∈ A, ∀ o u, H b ≠ some (.frz o u)
  | _, _, _, .tup _ r, b, hb => RelL.unl r b hb
  | _, _, _, .lstO q r, b, hb => (List.mem_cons.mp hb).elim (fun e o u z => by rw [e, q] at z; cases z) (RelL.unl r b)
  | _, _, _, .dctO q _ r, b, hb => (List.mem_cons.mp hb).elim (fun e o u z => by rw [e, q] at z; cases z) (RelL.unl r b)
  | _, _, _, .objO _ q _ r, b, hb => (List.mem_cons.mp hb).elim (fun e o u z => by rw [e, q] at z; cases z) (RelL.unl r b)
  | _, _, _, .non, b, hb => by simp at hb
  | _, _, _, .bl _, b, hb => by simp at hb
  | _, _, _, .int _, b, hb => by simp at hb
  | _, _, _, .str _, b, hb => by simp at hb
  | _, _, _, .lstF _ _, b, hb => by simp at hb
  | _, _, _, .scr _, b, hb => by simp at hb
  | _, _, _, .tux _ _ _, b, hb => by simp at hb
  | _, _, _, .dctF _ _ _, b, hb => by simp at hb
  | _, _, _, .objF _ _ _ _, b, hb => by simp at hb
  | _, _, _, .exn _ _ _, b, hb => by simp at hb
theorem RelL.unl : ∀ {vs : List V} {ds : List D} {A : List Addr}, RelL G P H vs ds A → ∀ b ∈ A, ∀ o u, H b ≠ some (.frz o u)
  | _, _, _, .nil, b, hb => by simp at hb
  | _, _, _, .cons r t, b, hb => (List.mem_append.mp hb).elim (Rel.unl r b) (RelL.unl t b)
end
mutual
theorem Rel.clean : ∀ {v : V} {d : D} {A : List Addr}, Rel G P H v d A → d.clean = true → A = []
  | _, _, _, .tup _ r, c => RelL.clean r (by simpa [D.clean] using c)
  | _, _, _, .lstO _ _, c => by simp [D.clean] at c
  | _, _, _, .dctO _ _ _, c => by simp [D.clean] at c
  | _, _, _, .objO _ _ _ _, c => by simp [D.clean] at c
  | _, _, _, .non, c => rfl
  | _, _, _, .bl _, c => rfl
  | _, _, _, .int _, c => rfl
  | _, _, _, .str _, c => rfl
  | _, _, _, .lstF _ _, c => rfl
  | _, _, _, .scr _, c => rfl
  | _, _, _, .tux _ _ _, c => rfl
  | _, _, _, .dctF _ _ _, c => rfl
  | _, _, _, .objF _ _ _ _, c => rfl
  | _, _, _, .exn _ _ _, c => rfl
theorem RelL.clean : ∀ {vs : List V} {ds : List D} {A : List Addr}, RelL G P H vs ds A → cleanL ds = true → A = []
  | _, _, _, .nil, c => rfl
  | _, _, _, .cons r t, c => by
    simp only [cleanL, Bool.and_eq_true] at c
    rw [Rel.clean r c.1, RelL.clean t c.2]
    rfl
end
theorem RelL.length : ∀ {vs : List V} {ds : List D} {A : List Addr}, RelL G P H vs ds A → vs.length = ds.length
  | _, _, _, .nil => rfl
  | _, _, _, .cons _ t => congrArg (· + 1) (RelL.length t)
theorem RelL.get : ∀ {vs : List V} {ds : List D} {A : List Addr} {i : Nat} {d : D}, RelL G P H vs ds A → ds[i]? = some d → ∃ v B, vs[i]? = some v ∧ Rel G P H v d B ∧ (∀ b ∈ B, b ∈ A)
  | _, _, _, _, _, .nil, e => by simp at e
  | _, _, _, 0, _, .cons r t, e => by simp at e; subst e; exact ⟨_, _, rfl, r, fun b hb => List.mem_append_left _ hb⟩
  | _, _, _, i + 1, _, .cons r t, e => by
    obtain ⟨v, B, h1, h2, h3⟩ := RelL.get (i := i) t (by simpa using e)
    exact ⟨v, B, by simpa using h1, h2, fun b hb => List.mem_append_right _ (h3 b hb)⟩
end
def Under (P H : Hp) : Prop := ∀ a u, P a = some u → H a = some u ∨ (∃ o kvs, u = .dK kvs ∧ H a = some (.frz o u)) ∨
  ∃ q ps, u = mark q ∧ H a = some (.tbl ps) ∧ TriplesOk ps.toList ∧ ∀ (pos : Pos) (cv : Value), codeAmong pos ps.toList = some cv → ∃ c, cv = .ref c ∧ P c = some (LamX.CodeO c q)
structure Ext (P H P' H' : Hp) (A : List Addr) : Prop where
  same : Same P P'
  und : Under P' H'
  keep : ∀ b o, H b = some o → P b = none → b ∉ A → H' b = some o
  lck : ∀ b o u, H b = some (.frz o u) → H' b = some (.frz o u)
  new : ∀ b o, P' b = some o → P b = some o ∨ H b = none ∨ b ∈ A
theorem Under.seqL {K : PySem.W.Frag} {P H : Hp} {a : Addr} {xs : List V} (u : Under P H) (h : SqL K P a xs) : SqL K H a xs := by
  rcases h with (h | ⟨o, h⟩) | h
  · rcases u _ _ h with q | ⟨_, _, e, _⟩ | ⟨_, _, e, _⟩
    · exact .inl (.inl q)
    · cases e
    · cases e
  · rcases u _ _ h with q | ⟨_, _, e, _⟩ | ⟨_, _, e, _⟩
    · exact .inl (.inr ⟨o, q⟩)
    · cases e
    · cases e
  · exact .inr h
theorem Under.seqT {K : PySem.W.Frag} {P H : Hp} {a : Addr} {xs : List V} (u : Under P H) (h : SqT K P a xs) : SqT K H a xs := by
  rcases h with (h | ⟨o, h⟩) | h
  · rcases u _ _ h with q | ⟨_, _, e, _⟩ | ⟨_, _, e, _⟩
    · exact .inl (.inl q)
    · cases e
    · cases e
  · rcases u _ _ h with q | ⟨_, _, e, _⟩ | ⟨_, _, e, _⟩
    · exact .inl (.inr ⟨o, q⟩)
    · cases e
    · cases e
  · exact .inr h
theorem Ext.refl {P H : Hp} {A : List Addr} (u : Under P H) : Ext P H P H A := ⟨Same.refl P, u, fun _ _ h _ _ => h, fun _ _ _ h => h, fun _ _ h => .inl h⟩
theorem Ext.there {P H P' H' : Hp} (e : Ext P H P' H' []) (u : Under P H) {b : Addr} {o : HO} (h : H b = some o) : ∃ o', H' b = some o' := by
  cases q : P b with
  | none => exact ⟨o, e.keep b o h q (by simp)⟩
  | some w =>
    rcases e.und _ _ (e.same _ _ q) with r | ⟨_, _, _, r⟩ | ⟨_, _, _, r, _⟩
    · exact ⟨_, r⟩
    · exact ⟨_, r⟩
    · exact ⟨_, r⟩
theorem Ext.free {P H P' H' : Hp} (e : Ext P H P' H' []) (u : Under P H) {b : Addr} (h : H' b = none) : H b = none := by
  cases q : H b with
  | none => rfl
  | some o =>
    obtain ⟨o', r⟩ := e.there u q
    rw [h] at r; cases r
theorem Ext.trans {P H P1 H1 P2 H2 : Hp} (u : Under P H) (a : Ext P H P1 H1 []) (b : Ext P1 H1 P2 H2 []) : Ext P H P2 H2 [] where
  same := a.same.trans b.same
  und := b.und
  lck := fun c o u h => b.lck c o u (a.lck c o u h)
  keep := fun c o h n hc => by
    refine b.keep c o (a.keep c o h n hc) ?_ hc
    cases q : P1 c with
    | none => rfl
    | some w =>
      rcases a.new c w q with z | z | z
      · rw [n] at z; cases z
      · rw [h] at z; cases z
      · simp at z
  new := fun c o h => by
    rcases b.new c o h with z | z | z
    · exact a.new c o z
    · exact .inr (.inl (a.free u z))
    · simp at z
theorem Ext.own {P H P' H' : Hp} {A : List Addr} (e : Ext P H P' H' []) (ha : ∀ b ∈ A, ∃ o, H b = some o) (hp : ∀ b ∈ A, P b = none) : (∀ b ∈ A, H' b = H b) ∧ ∀ b ∈ A, P' b = none := by
  refine ⟨fun b hb => ?_, fun b hb => ?_⟩
  · obtain ⟨o, q⟩ := ha b hb
    rw [q, e.keep b o q (hp b hb) (by simp)]
  · cases q : P' b with
    | none => rfl
    | some w =>
      obtain ⟨o, r⟩ := ha b hb
      rcases e.new b w q with z | z | z
      · rw [hp b hb] at z; cases z
      · rw [r] at z; cases z
      · simp at z
section
variable {G : Gd} {P P' H H' : Hp}
theorem Rel.ext {v : V} {d : D} {A : List Addr} (r : Rel G P H v d A) (e : Ext P H P' H' []) (hp : ∀ b ∈ A, P b = none) : Rel G P' H' v d A := r.mono e.same (e.own r.at hp).1
theorem RelL.ext {v : List V} {d : List D} {A : List Addr} (r : RelL G P H v d A) (e : Ext P H P' H' []) (hp : ∀ b ∈ A, P b = none) : RelL G P' H' v d A := r.mono e.same (e.own r.at hp).1
def give (P H : Hp) (A : List Addr) : Hp := fun b => if b ∈ A then H b else P b
theorem give_in {A : List Addr} {b : Addr} (h : b ∈ A) : give P H A b = H b := if_pos h
theorem give_out {A : List Addr} {b : Addr} (h : b ∉ A) : give P H A b = P b := if_neg h
theorem give_same {A : List Addr} (hp : ∀ b ∈ A, P b = none) : Same P (give P H A) := fun b o h => by
  by_cases hb : b ∈ A
  · rw [hp b hb] at h; cases h
  · rw [give_out hb]; exact h
theorem give_und {A : List Addr} (u : Under P H) (hp : ∀ b ∈ A, P b = none) : Under (give P H A) H := fun b o h => by
  by_cases hb : b ∈ A
  · rw [give_in hb] at h; exact .inl h
  · rw [give_out hb] at h
    rcases u b o h with z | z | ⟨q, ps, z1, z2, z3, z4⟩
    · exact .inl z
    · exact .inr (.inl z)
    · refine .inr (.inr ⟨q, ps, z1, z2, z3, fun pos cv hc => ?_⟩)
      obtain ⟨c, e1, e2⟩ := z4 pos cv hc
      exact ⟨c, e1, give_same hp _ _ e2⟩
theorem give_ext {A : List Addr} (u : Under P H) (hp : ∀ b ∈ A, P b = none) : Ext P H (give P H A) H A where
  same := give_same hp
  und := give_und u hp
  keep := fun _ _ h _ _ => h
  lck := fun _ _ _ h => h
  new := fun b o h => by
    by_cases hb : b ∈ A
    · exact .inr (.inr hb)
    · rw [give_out hb] at h; exact .inl h
mutual
theorem Rel.frz (s : Same P P') : ∀ {v : V} {d : D} {A : List Addr}, (∀ b ∈ A, P' b = H b) → Rel G P H v d A → Rel G P' H' v d.frz []
  | _, _, _, _, .non => .non
  | _, _, _, _, .bl b => .bl b
  | _, _, _, _, .int i => .int i
  | _, _, _, _, .str x => .str x
  | _, _, _, h, .tup q r => .tup (Same.sqT s q) (RelL.frz s h r)
  | _, _, _, h, .scr q => .scr (Same.seq s q)
  | _, _, _, h, .tux q e r => .tux (s _ _ q) e (RelL.frz s (by simp) r)
  | _, _, _, h, .lstF q r => .lstF (s _ _ q) (RelL.frz s (by simp) r)
  | _, _, _, h, .lstO q r => .lstF (by rw [h _ List.mem_cons_self]; exact q) (RelL.frz s (fun b hb => h b (List.mem_cons_of_mem _ hb)) r)
  | _, _, _, h, .dctF q l r => .dctF (s _ _ q) l (RelL.frz s (by simp) r)
  | _, _, _, h, .dctO q l r => .dctF (by rw [h _ List.mem_cons_self]; exact q) l (RelL.frz s (fun b hb => h b (List.mem_cons_of_mem _ hb)) r)
  | _, _, _, h, .objF c q l r => .objF c (s _ _ q) l (RelL.frz s (by simp) r)
  | _, _, _, h, .objO c q l r => .objF c (by rw [h _ List.mem_cons_self]; exact q) l (RelL.frz s (fun b hb => h b (List.mem_cons_of_mem _ hb)) r)
  | _, _, _, h, .exn c q x => .exn c (s _ _ q) (x.mono s)
theorem RelL.frz (s : Same P P') : ∀ {vs : List V} {ds : List D} {A : List Addr}, (∀ b ∈ A, P' b = H b) → RelL G P H vs ds A → RelL G P' H' vs (frzL ds) []
  | _, _, _, _, .nil => .nil
  | _, _, _, h, .cons r t => .cons (A := []) (B := []) (Rel.frz s (fun b hb => h b (List.mem_append_left _ hb)) r) (RelL.frz s (fun b hb => h b (List.mem_append_right _ hb)) t)
end
end
abbrev Env := List (Option D)
inductive EnvRel (G : Gd) (P H : Hp) : Sl → Env → List Addr → Prop
  | nil : EnvRel G P H [] [] []
  | no {s : Option V} {σ : Sl} {ρ : Env} {A : List Addr} : EnvRel G P H σ ρ A → EnvRel G P H (s :: σ) (none :: ρ) A
  | val {v : V} {d : D} {σ : Sl} {ρ : Env} {A B : List Addr} : Rel G P H v d A → EnvRel G P H σ ρ B → EnvRel G P H (some v :: σ) (some d :: ρ) (A ++ B)
section
variable {G : Gd} {P P' H H' : Hp}
theorem EnvRel.mono (s : Same P P') : ∀ {σ : Sl} {ρ : Env} {A : List Addr}, (∀ b ∈ A, H' b = H b) → EnvRel G P H σ ρ A → EnvRel G P' H' σ ρ A
  | _, _, _, _, .nil => .nil
  | _, _, _, h, .no t => .no (t.mono s h)
  | _, _, _, h, .val r t => .val (r.mono s fun b hb => h b (List.mem_append_left _ hb)) (t.mono s fun b hb => h b (List.mem_append_right _ hb))
theorem EnvRel.at : ∀ {σ : Sl} {ρ : Env} {A : List Addr}, EnvRel G P H σ ρ A → ∀ b ∈ A, ∃ o, H b = some o
  | _, _, _, .nil, b, hb => by simp at hb
  | _, _, _, .no t, b, hb => t.at b hb
  | _, _, _, .val r t, b, hb => (List.mem_append.mp hb).elim (r.at b) (t.at b)
theorem EnvRel.unl : ∀ {σ : Sl} {ρ : Env} {A : List Addr}, EnvRel G P H σ ρ A → ∀ b ∈ A, ∀ o u, H b ≠ some (.frz o u)
  | _, _, _, .nil, b, hb => by simp at hb
  | _, _, _, .no t, b, hb => t.unl b hb
  | _, _, _, .val r t, b, hb => (List.mem_append.mp hb).elim (r.unl b) (t.unl b)
theorem EnvRel.ext {σ : Sl} {ρ : Env} {A : List Addr} (r : EnvRel G P H σ ρ A) (e : Ext P H P' H' []) (hp : ∀ b ∈ A, P b = none) : EnvRel G P' H' σ ρ A := r.mono e.same (e.own r.at hp).1
theorem EnvRel.length : ∀ {σ : Sl} {ρ : Env} {A : List Addr}, EnvRel G P H σ ρ A → σ.length = ρ.length
  | _, _, _, .nil => rfl
  | _, _, _, .no t => congrArg (· + 1) t.length
  | _, _, _, .val _ t => congrArg (· + 1) t.length
theorem EnvRel.get : ∀ {σ : Sl} {ρ : Env} {A : List Addr} {i : Nat} {d : D}, EnvRel G P H σ ρ A → ρ[i]? = some (some d) → ∃ v B, σ[i]? = some (some v) ∧ Rel G P H v d B ∧ ∀ b ∈ B, b ∈ A
  | _, _, _, _, _, .nil, e => by simp at e
  | _, _, _, 0, _, .no t, e => by simp at e
  | _, _, _, 0, _, .val r t, e => by simp at e; subst e; exact ⟨_, _, rfl, r, fun b hb => List.mem_append_left _ hb⟩
  | _, _, _, i + 1, _, .no t, e => by
    obtain ⟨v, B, h1, h2, h3⟩ := t.get (i := i) (by simpa using e)
    exact ⟨v, B, by simpa using h1, h2, h3⟩
  | _, _, _, i + 1, _, .val r t, e => by
    obtain ⟨v, B, h1, h2, h3⟩ := t.get (i := i) (by simpa using e)
    exact ⟨v, B, by simpa using h1, h2, fun b hb => List.mem_append_right _ (h3 b hb)⟩
theorem EnvRel.out : ∀ {σ : Sl} {ρ : Env} {A : List Addr} {i : Nat}, EnvRel G P H σ ρ A → i < ρ.length → ∃ B C, (A.Perm (B ++ C)) ∧ EnvRel G P H σ (ρ.set i none) C ∧
    ((∃ d v, ρ[i]? = some (some d) ∧ σ[i]? = some (some v) ∧ Rel G P H v d B) ∨ (ρ[i]? = some none ∧ B = []))
  | _, _, _, i, .nil, h => by simp at h
  | _, _, _, 0, .no t, h => ⟨[], _, .refl _, .no t, .inr ⟨rfl, rfl⟩⟩
  | _, _, _, 0, .val r t, h => ⟨_, _, .refl _, .no t, .inl ⟨_, _, rfl, rfl, r⟩⟩
  | _, _, _, i + 1, .no t, h => by
    obtain ⟨B, C, p, e, q⟩ := t.out (i := i) (by simpa using h)
    exact ⟨B, C, p, .no e, by simpa using q⟩
  | _, _, _, i + 1, .val (A := A1) (B := B1) r t, h => by
    obtain ⟨B, C, p, e, q⟩ := t.out (i := i) (by simpa using h)
    refine ⟨B, A1 ++ C, ?_, .val r e, by simpa using q⟩
    refine (p.append_left A1).trans ?_
    rw [← List.append_assoc, ← List.append_assoc]
    exact List.Perm.append_right C List.perm_append_comm
theorem EnvRel.put {v : V} {d : D} {B : List Addr} (r : Rel G P H v d B) : ∀ {σ : Sl} {ρ : Env} {C : List Addr} {i : Nat}, EnvRel G P H σ ρ C → i < ρ.length → ρ[i]? = some none → ∃ A, A.Perm (B ++ C) ∧ EnvRel G P H (σ.set i (some v)) (ρ.set i (some d)) A
  | _, _, _, i, .nil, h, _ => by simp at h
  | _, _, _, 0, .no t, h, _ => ⟨_, .refl _, .val r t⟩
  | _, _, _, 0, .val _ t, h, e => by simp at e
  | _, _, _, i + 1, .no t, h, e => by
    obtain ⟨A, p, q⟩ := t.put (i := i) r (by simpa using h) (by simpa using e)
    exact ⟨A, p, .no q⟩
  | _, _, _, i + 1, .val (A := A1) r1 t, h, e => by
    obtain ⟨A, p, q⟩ := t.put (i := i) r (by simpa using h) (by simpa using e)
    refine ⟨A1 ++ A, ?_, .val r1 q⟩
    refine (p.append_left A1).trans ?_
    rw [← List.append_assoc, ← List.append_assoc]
    exact List.Perm.append_right _ List.perm_append_comm
theorem EnvRel.set_same : ∀ {σ : Sl} {i : Nat} {v : V}, σ[i]? = some (some v) → σ.set i (some v) = σ
  | [], _, _, h => by simp at h
  | s :: σ, 0, v, h => by simp at h; subst h; rfl
  | s :: σ, i + 1, v, h => by
    show s :: σ.set i (some v) = s :: σ
    rw [EnvRel.set_same (by simpa using h)]
theorem EnvRel.drop : ∀ {σ : Sl} {ρ : Env} {A : List Addr} {i : Nat}, EnvRel G P H σ ρ A → ∃ C, (∀ b ∈ C, b ∈ A) ∧ (A.Nodup → C.Nodup) ∧ EnvRel G P H σ (ρ.set i none) C := fun {σ ρ A i} e => by
  by_cases h : i < ρ.length
  · obtain ⟨B, C, p, q, _⟩ := e.out h
    exact ⟨C, fun b hb => p.symm.subset (List.mem_append_right _ hb), fun n => ((p.nodup_iff.mp n).sublist (List.sublist_append_right _ _)), q⟩
  · refine ⟨A, fun _ h => h, fun n => n, ?_⟩
    rw [List.set_eq_of_length_le (by omega)]
    exact e
theorem EnvRel.anyAt {s : Option V} : ∀ {σ : Sl} {ρ : Env} {A : List Addr} {i : Nat}, EnvRel G P H σ ρ A → ρ[i]? = some none → EnvRel G P H (σ.set i s) ρ A
  | _, _, _, i, .nil, h => by simp at h
  | _, _, _, 0, .no t, _ => .no t
  | _, _, _, 0, .val _ _, h => by simp at h
  | _, _, _, i + 1, .no t, h => .no (t.anyAt (by simpa using h))
  | _, _, _, i + 1, .val r t, h => .val r (t.anyAt (by simpa using h))
end
structure StRel (G : Gd) (P H : Hp) (σ : Sl) (ρ : Env) (A : List Addr) : Prop where
  und : Under P H
  env : EnvRel G P H σ ρ A
  nd : A.Nodup
  off : ∀ b ∈ A, P b = none
  mks : Marks G P
theorem StRel.ext {G : Gd} {P H P' H' : Hp} {σ : Sl} {ρ : Env} {A : List Addr} (s : StRel G P H σ ρ A) (e : Ext P H P' H' []) : StRel G P' H' σ ρ A :=
  ⟨e.und, s.env.ext e s.off, s.nd, (e.own s.env.at s.off).2, s.mks.mono e.same⟩
end RL
namespace RL
open PySem PySem.Spec PyProof.Rows L2
abbrev gd (X : Cx) : Gd := ⟨X.K, X.mg⟩
inductive Res (α : Type) where
  | ok (a : α) | exc (x : D) | bad
def Res.bind {α β : Type} (r : Res α) (f : α → Res β) : Res β := match r with
  | .ok a => f a
  | .exc x => .exc x
  | .bad => .bad
def opt {α : Type} : Option α → Res α
  | some a => .ok a
  | none => .bad
def XRel (G : Gd) (P : Hp) (cls : Value) (dx : Option Addr) (x : D) : Prop := ∃ c ns ds C, x = .exn c ns ds ∧ G.mg c = some (.ref C) ∧ cls = .ref C ∧ XF P dx ns ds
def Fresh (P' H : Hp) (B : List Addr) : Prop := B.Nodup ∧ ∀ b ∈ B, H b = none ∧ P' b = none
theorem Fresh.nil {P' H : Hp} : Fresh P' H [] := ⟨List.nodup_nil, fun b h => by simp at h⟩
def Post (G : Gd) (P H : Hp) (Q : VK) (d : D) : Prop := ∀ v P' H' B, Ext P H P' H' [] → Rel G P' H' v d B → Fresh P' H B → Q v H'
def PostB (G : Gd) (P H : Hp) (Q : VK) (d : D) : Prop := ∀ v P' H' B, Ext P H P' H' [] → Rel G P' H' v d B → (∀ b ∈ B, P' b = none) → Q v H'
def PostX (G : Gd) (P H : Hp) (W : WX) (σ : Sl) (x : D) : Prop := ∀ cls dx P' H', Ext P H P' H' [] → XRel G P' cls dx x → W cls dx σ H'
def tE (G : Gd) (W : WX) (S : Env → Res D) : TE := fun σ H Q => ∃ P ρ A, StRel G P H σ ρ A ∧ match S ρ with
  | .ok d => Post G P H Q d
  | .exc x => PostX G P H W σ x
  | .bad => False
def tBo (G : Gd) (W : WX) (S : Env → Res D) : TE := fun σ H Q => ∃ P ρ A, StRel G P H σ ρ A ∧ match S ρ with
  | .ok d => PostB G P H Q d
  | .exc x => PostX G P H W σ x
  | .bad => False
def tT (G : Gd) (W : WX) (S : Env → Res Bool) : TT := fun σ H Q => ∃ P ρ A, StRel G P H σ ρ A ∧ match S ρ with
  | .ok b => ∀ P' H', Ext P H P' H' [] → Q b H'
  | .exc x => PostX G P H W σ x
  | .bad => False
def PostL (G : Gd) (P H : Hp) (Q : List V → Hp → Prop) (ds : List D) : Prop := ∀ vs P' H' B, Ext P H P' H' [] → RelL G P' H' vs ds B → Fresh P' H B → Q vs H'
def PostLB (G : Gd) (P H : Hp) (Q : List V → Hp → Prop) (ds : List D) : Prop := ∀ vs P' H' B, Ext P H P' H' [] → RelL G P' H' vs ds B → (∀ b ∈ B, P' b = none) → Q vs H'
def tL (G : Gd) (W : WX) (S : Env → Res (List D)) : TA := fun σ H Q => ∃ P ρ A, StRel G P H σ ρ A ∧ match S ρ with
  | .ok ds => PostL G P H Q ds
  | .exc x => PostX G P H W σ x
  | .bad => False
def tLB (G : Gd) (W : WX) (S : Env → Res (List D)) : TA := fun σ H Q => ∃ P ρ A, StRel G P H σ ρ A ∧ match S ρ with
  | .ok ds => PostLB G P H Q ds
  | .exc x => PostX G P H W σ x
  | .bad => False
structure EOk (X : Cx) (W : WX) (e : Expr) (S : Env → Res D) : Prop where pe : PE X e (tE (gd X) W S)
structure BOk (X : Cx) (W : WX) (e : Expr) (S : Env → Res D) : Prop where pe : PE X e (tBo (gd X) W S)
structure TOk (X : Cx) (W : WX) (e : Expr) (S : Env → Res Bool) : Prop where pt : PT X e (tT (gd X) W S)
structure AOk (X : Cx) (W : WX) (es : List Expr) (S : Env → Res (List D)) : Prop where pa : PA X es (tL (gd X) W S)
structure ABOk (X : Cx) (W : WX) (es : List Expr) (S : Env → Res (List D)) : Prop where pa : PA X es (tLB (gd X) W S)
theorem PE.imp {X : Cx} {e : Expr} {t t' : TE} (h : PE X e t) (f : ∀ σ H Q, t' σ H Q → t σ H Q) : PE X e t' := ⟨fun pins s σ H Q I q => h.run pins s σ H Q I (f σ H Q q)⟩
theorem PT.imp {X : Cx} {e : Expr} {t t' : TT} (h : PT X e t) (f : ∀ σ H Q, t' σ H Q → t σ H Q) : PT X e t' := ⟨fun pins s σ H Q I q => h.run pins s σ H Q I (f σ H Q q)⟩
theorem PA.imp {X : Cx} {e : List Expr} {t t' : TA} (h : PA X e t) (f : ∀ σ H Q, t' σ H Q → t σ H Q) : PA X e t' := ⟨fun pos pins s σ H Q I q => h.run pos pins s σ H Q I (f σ H Q q)⟩
theorem PS.imp {X : Cx} {e : Stmt} {t t' : TS} (h : PS X e t) (f : ∀ D σ H, t' D σ H → t D σ H) : PS X e t' := ⟨fun pins s σ H D I q => h.run pins s σ H D I (f D σ H q)⟩
theorem PSs.imp {X : Cx} {e : List Stmt} {t t' : TS} (h : PSs X e t) (f : ∀ D σ H, t' D σ H → t D σ H) : PSs X e t' := ⟨fun pins s σ H D I q => h.run pins s σ H D I (f D σ H q)⟩
theorem PE.or {X : Cx} {e : Expr} {t t' : TE} (h : PE X e t) (h' : PE X e t') : PE X e (fun σ H Q => t σ H Q ∨ t' σ H Q) := ⟨fun pins s σ H Q I q => q.elim (h.run pins s σ H Q I) (h'.run pins s σ H Q I)⟩
section
variable {G : Gd} {P P1 H H1 : Hp} {W : WX} {σ : Sl}
theorem Post.ext {Q : VK} {d : D} (h : Post G P H Q d) (u : Under P H) (e : Ext P H P1 H1 []) : Post G P1 H1 Q d := fun v P' H' B e' r f => h v P' H' B (e.trans u e') r ⟨f.1, fun b hb => ⟨e.free u (f.2 b hb).1, (f.2 b hb).2⟩⟩
theorem PostB.ext {Q : VK} {d : D} (h : PostB G P H Q d) (u : Under P H) (e : Ext P H P1 H1 []) : PostB G P1 H1 Q d := fun v P' H' B e' r f => h v P' H' B (e.trans u e') r f
theorem PostB.post {Q : VK} {d : D} (h : PostB G P H Q d) : Post G P H Q d := fun v P' H' B e r f => h v P' H' B e r fun b hb => (f.2 b hb).2
theorem PostX.ext {x : D} (h : PostX G P H W σ x) (u : Under P H) (e : Ext P H P1 H1 []) : PostX G P1 H1 W σ x := fun cls dx P' H' e' r => h cls dx P' H' (e.trans u e') r
end
section
variable {X : Cx} {W : WX} {e a b : Expr} {pos : Pos} {Sa Sb : Env → Res D}
theorem EOk.bo (h : EOk X W e Sa) : BOk X W e Sa := ⟨PE.imp h.pe fun σ H Q ⟨P, ρ, A, st, q⟩ => ⟨P, ρ, A, st, by
  cases hs : Sa ρ with
  | ok d => rw [hs] at q; exact PostB.post q
  | exc x => rw [hs] at q; exact q
  | bad => rw [hs] at q; exact q⟩⟩
def sCl (S : Env → Res D) : Env → Res D := fun ρ => (S ρ).bind fun d => if d.clean = true then .ok d else .bad
theorem BOk.eo (h : BOk X W e Sa) : EOk X W e (sCl Sa) := ⟨PE.imp h.pe fun σ H Q ⟨P, ρ, A, st, q⟩ => ⟨P, ρ, A, st, by
  unfold sCl at q
  cases hs : Sa ρ with
  | ok d =>
    simp only [hs, Res.bind] at q
    by_cases hc : d.clean = true
    · rw [if_pos hc] at q
      exact fun v P' H' B e r f => q v P' H' B e r (by rw [r.clean hc]; exact Fresh.nil)
    · rw [if_neg hc] at q; exact q.elim
  | exc x => simp only [hs, Res.bind] at q; exact q
  | bad => simp only [hs, Res.bind] at q⟩⟩
theorem EOk.to {S S' : Env → Res D} (h : EOk X W e S) (q : S = S') : EOk X W e S' := q ▸ h
def sVarB (i : Nat) : Env → Res D := fun ρ => match ρ[i]? with
  | some (some d) => .ok d
  | _ => .bad
def sVar (i : Nat) : Env → Res D := sCl (sVarB i)
theorem b_var (i : Nat) {x : Str} {p : Pos} (hN : X.N[i]? = some x := by rfl) (hv : Vis X.env.scope x := by first | exact Or.inl rfl | exact Or.inr (Or.inl rfl) | exact Or.inr (Or.inr rfl)) (hd : (x == ("__debug__" : Str)) = false := by decide)
    (hcd : (x == ("__classdict__" : Str)) = false := by decide) : BOk X W (.Name x p) (sVarB i) := ⟨PE.imp (pe_var hN hv hd hcd) fun σ H Q ⟨P, ρ, A, st, q⟩ => by
  unfold sVarB at q
  split at q
  · rename_i d hs
    split at hs
    · cases hs
      rename_i d' hd'
      obtain ⟨v, B, h1, h2, h3⟩ := st.env.get hd'
      exact ⟨v, h1, q v P H B (Ext.refl st.und) h2 fun b hb => st.off b (h3 b hb)⟩
    · cases hs
  · rename_i hs
    split at hs <;> cases hs
  · exact q.elim⟩
theorem e_var (i : Nat) {x : Str} {p : Pos} (hN : X.N[i]? = some x := by rfl) (hv : Vis X.env.scope x := by first | exact Or.inl rfl | exact Or.inr (Or.inl rfl) | exact Or.inr (Or.inr rfl)) (hd : (x == ("__debug__" : Str)) = false := by decide)
    (hcd : (x == ("__classdict__" : Str)) = false := by decide) : EOk X W (.Name x p) (sVar i) := (b_var i hN hv hd hcd).eo
def sC (d : D) : Env → Res D := fun _ => .ok d
theorem e_val {v : V} {d : D} (h : PE X e (tC v)) (r : ∀ P H, Rel (gd X) P H v d []) : EOk X W e (sC d) := ⟨PE.imp h fun σ H Q ⟨P, ρ, A, st, q⟩ => q v P H [] (Ext.refl st.und) (r P H) Fresh.nil⟩
theorem e_int {i : Int} {j : Nat} {p : Pos} : EOk X W (.Constant (.int i) j p) (sC (.int i)) := e_val pe_int fun _ _ => .int i
theorem e_bl {i : Bool} {j : Nat} {p : Pos} : EOk X W (.Constant (.bool i) j p) (sC (.bl i)) := e_val pe_bl fun _ _ => .bl i
theorem e_non {j : Nat} {p : Pos} : EOk X W (.Constant .none j p) (sC .non) := e_val pe_non fun _ _ => .non
theorem e_str {i : Str} {j : Nat} {p : Pos} : EOk X W (.Constant (.str i) j p) (sC (.str i)) := e_val pe_str fun _ _ => .str i
def rD (G : Gd) (f : D → D → Option D) : R2 := fun x y H Q => ∃ P dx dy Bx By, Under P H ∧ Rel G P H x dx Bx ∧ Rel G P H y dy By ∧ (∀ b ∈ Bx, P b = none) ∧ (∀ b ∈ By, P b = none) ∧ match f dx dy with
  | some d => Post G P H Q d
  | none => False
def s2 (f : D → D → Option D) (Sa Sb : Env → Res D) : Env → Res D := fun ρ => (Sa ρ).bind fun x => (Sb ρ).bind fun y => opt (f x y)
theorem two {f : D → D → Option D} {r : R2} (hr : ∀ x y H Q, rD (gd X) f x y H Q → r x y H Q) {σ : Sl} {H : Hp} {Q : VK} (h : tE (gd X) W (s2 f Sa Sb) σ H Q) : tOp r (tBo (gd X) W Sa) (tBo (gd X) W Sb) σ H Q := by
  obtain ⟨P, ρ, A, st, h⟩ := h
  refine ⟨P, ρ, A, st, ?_⟩
  unfold s2 at h
  cases ha : Sa ρ with
  | bad => simp only [ha, Res.bind] at h
  | exc x => simp only [ha, Res.bind] at h; exact h
  | ok dx =>
    simp only [ha, Res.bind] at h
    intro v P1 H1 B1 e1 r1 o1
    refine ⟨P1, ρ, A, st.ext e1, ?_⟩
    cases hb : Sb ρ with
    | bad => simp only [hb] at h
    | exc x => simp only [hb] at h; exact PostX.ext h st.und e1
    | ok dy =>
      simp only [hb] at h
      intro v2 P2 H2 B2 e2 r2 o2
      refine hr _ _ _ _ ⟨P2, dx, dy, B1, B2, e2.und, r1.ext e2 o1, r2, (e2.own r1.at o1).2, o2, ?_⟩
      cases hf : f dx dy with
      | none => simp only [hf, opt] at h
      | some d => simp only [hf, opt] at h; exact Post.ext h st.und (e1.trans st.und e2)
theorem e_op {op : Operator} {f : D → D → Option D} (ho : OpR X (binaryOp op) (rD (gd X) f)) (ha : BOk X W a Sa) (hb : BOk X W b Sb) : EOk X W (.BinOp a op b pos) (s2 f Sa Sb) :=
  ⟨PE.imp (pe_op ho ha.pe hb.pe) fun _ _ _ => two fun _ _ _ _ h => h⟩
theorem e_cmp {op : CmpOp} {f : D → D → Option D} (ho : OpR X (compareOp op) (rD (gd X) f)) (ha : BOk X W a Sa) (hb : BOk X W b Sb) (hm : behindInMarks op b = false := by first | exact nobehind _ (by decide) (by decide) | rfl) : EOk X W (.Compare a [op] [b] pos) (s2 f Sa Sb) :=
  ⟨PE.imp (pe_cmpR ho ha.pe hb.pe hm) fun _ _ _ => two fun _ _ _ _ h => h⟩
def asB : D → Res Bool
  | .bl b => .ok b
  | _ => .bad
def sTest (S : Env → Res D) : Env → Res Bool := fun ρ => (S ρ).bind asB
theorem test_of {S : Env → Res D} {σ : Sl} {H : Hp} {Q : Bool → Hp → Prop} (h : tT (gd X) W (sTest S) σ H Q) : tE (gd X) W S σ H fun x H' => ∃ k, x = .bl k ∧ Q k H' := by
  obtain ⟨P, ρ, A, st, h⟩ := h
  refine ⟨P, ρ, A, st, ?_⟩
  unfold sTest at h
  cases hs : S ρ with
  | bad => simp only [hs, Res.bind] at h
  | exc x => simp only [hs, Res.bind] at h; exact h
  | ok d =>
    simp only [hs, Res.bind] at h
    intro v P' H' B e r f
    cases d with
    | bl k => cases r; exact ⟨k, rfl, h P' H' e⟩
    | _ => simp only [asB] at h
theorem t_cmp {op : CmpOp} {f : D → D → Option D} (ho : OpR X (compareOp op) (rD (gd X) f)) (ha : BOk X W a Sa) (hb : BOk X W b Sb) (hm : behindInMarks op b = false := by first | exact nobehind _ (by decide) (by decide) | rfl) : TOk X W (.Compare a [op] [b] pos) (sTest (s2 f Sa Sb)) :=
  ⟨PT.imp (pt_cmpR ho ha.pe hb.pe hm) fun _ _ _ h => two (fun _ _ _ _ h => h) (test_of h)⟩
theorem t_val {S : Env → Res D} (h : EOk X W e S) (he : ∀ whole, isTrue e X.env whole = (do let v ← whole; standAt e.pos; holding [v] (truthy v)) := by intro _; rfl) : TOk X W e (sTest S) :=
  ⟨PT.imp (pt_val h.pe he) fun _ _ _ h => test_of h⟩
def sNot (S : Env → Res Bool) : Env → Res Bool := fun ρ => (S ρ).bind fun b => .ok (!b)
theorem t_not {S : Env → Res Bool} (h : TOk X W a S) : TOk X W (.UnaryOp .Not a pos) (sNot S) := ⟨PT.imp (pt_not h.pt) fun σ H Q ⟨P, ρ, A, st, q⟩ => ⟨P, ρ, A, st, by
  unfold sNot at q
  cases hs : S ρ <;> simp only [hs, Res.bind] at q <;> exact q⟩⟩
def sAndT (S T : Env → Res Bool) : Env → Res Bool := fun ρ => (S ρ).bind fun b => if b = true then T ρ else .ok false
def sOrT (S T : Env → Res Bool) : Env → Res Bool := fun ρ => (S ρ).bind fun b => if b = true then .ok true else T ρ
structure WOk (X : Cx) (W : WX) (e : Expr) (S : Env → Res Bool) : Prop where pw : PW X e (tT (gd X) W S)
theorem PW.imp {X : Cx} {e : Expr} {t t' : TT} (h : PW X e t) (f : ∀ σ H Q, t' σ H Q → t σ H Q) : PW X e t' := ⟨fun wh pins s σ H Q I q => h.run wh pins s σ H Q I (f σ H Q q)⟩
theorem WOk.t {S : Env → Res Bool} (h : WOk X W e S) : TOk X W e S := ⟨h.pw.pt⟩
theorem w_and1 {S : Env → Res Bool} (h : TOk X W a S) : WOk X W (.BoolOp .And [a] pos) S := ⟨pw_and1 h.pt⟩
theorem w_or1 {S : Env → Res Bool} (h : TOk X W a S) : WOk X W (.BoolOp .Or [a] pos) S := ⟨pw_or1 h.pt⟩
theorem w_and {S T : Env → Res Bool} {r : List Expr} (h : TOk X W a S) (h' : WOk X W (.BoolOp .And (b :: r) pos) T) : WOk X W (.BoolOp .And (a :: b :: r) pos) (sAndT S T) := ⟨PW.imp (pw_and h.pt h'.pw) fun σ H Q ⟨P, ρ, A, st, q⟩ => ⟨P, ρ, A, st, by
  unfold sAndT at q
  cases hs : S ρ with
  | bad => simp only [hs, Res.bind] at q
  | exc x => simp only [hs, Res.bind] at q; exact q
  | ok k =>
    simp only [hs, Res.bind] at q
    intro P1 H1 e1
    cases k with
    | false => simp only [Bool.false_eq_true, if_false] at q ⊢; exact q P1 H1 e1
    | true =>
      simp only [if_true] at q ⊢
      refine ⟨P1, ρ, A, st.ext e1, ?_⟩
      cases ht : T ρ with
      | bad => simp only [ht] at q
      | exc x => simp only [ht] at q; exact PostX.ext q st.und e1
      | ok k' => simp only [ht] at q; exact fun P2 H2 e2 => q P2 H2 (e1.trans st.und e2)⟩⟩
theorem w_or {S T : Env → Res Bool} {r : List Expr} (h : TOk X W a S) (h' : WOk X W (.BoolOp .Or (b :: r) pos) T) : WOk X W (.BoolOp .Or (a :: b :: r) pos) (sOrT S T) := ⟨PW.imp (pw_or h.pt h'.pw) fun σ H Q ⟨P, ρ, A, st, q⟩ => ⟨P, ρ, A, st, by
  unfold sOrT at q
  cases hs : S ρ with
  | bad => simp only [hs, Res.bind] at q
  | exc x => simp only [hs, Res.bind] at q; exact q
  | ok k =>
    simp only [hs, Res.bind] at q
    intro P1 H1 e1
    cases k with
    | true => simp only [if_true] at q ⊢; exact q P1 H1 e1
    | false =>
      simp only [Bool.false_eq_true, if_false] at q ⊢
      refine ⟨P1, ρ, A, st.ext e1, ?_⟩
      cases ht : T ρ with
      | bad => simp only [ht] at q
      | exc x => simp only [ht] at q; exact PostX.ext q st.und e1
      | ok k' => simp only [ht] at q; exact fun P2 H2 e2 => q P2 H2 (e1.trans st.und e2)⟩⟩
def sIf (C : Env → Res Bool) (Sa Sb : Env → Res D) : Env → Res D := fun ρ => (C ρ).bind fun k => if k = true then Sa ρ else Sb ρ
theorem e_if {c : Expr} {C : Env → Res Bool} (hc : TOk X W c C) (ha : EOk X W a Sa) (hb : EOk X W b Sb) : EOk X W (.IfExp c a b pos) (sIf C Sa Sb) := ⟨PE.imp (pe_ifExp hc.pt ha.pe hb.pe) fun σ H Q ⟨P, ρ, A, st, q⟩ => ⟨P, ρ, A, st, by
  unfold sIf at q
  cases hs : C ρ with
  | bad => simp only [hs, Res.bind] at q
  | exc x => simp only [hs, Res.bind] at q; exact q
  | ok k =>
    simp only [hs, Res.bind] at q
    intro P1 H1 e1
    cases k with
    | true =>
      simp only [if_true] at q ⊢
      refine ⟨P1, ρ, A, st.ext e1, ?_⟩
      cases ht : Sa ρ with
      | bad => simp only [ht] at q
      | exc x => simp only [ht] at q; exact PostX.ext q st.und e1
      | ok k' => simp only [ht] at q; exact Post.ext q st.und e1
    | false =>
      simp only [Bool.false_eq_true, if_false] at q ⊢
      refine ⟨P1, ρ, A, st.ext e1, ?_⟩
      cases ht : Sb ρ with
      | bad => simp only [ht] at q
      | exc x => simp only [ht] at q; exact PostX.ext q st.und e1
      | ok k' => simp only [ht] at q; exact Post.ext q st.und e1⟩⟩
def sB (S : Env → Res Bool) : Env → Res D := fun ρ => (S ρ).bind fun b => .ok (.bl b)
theorem val_of {S : Env → Res Bool} {σ : Sl} {H : Hp} {Q : VK} (h : tE (gd X) W (sB S) σ H Q) : tT (gd X) W S σ H fun k H' => Q (.bl k) H' := by
  obtain ⟨P, ρ, A, st, h⟩ := h
  refine ⟨P, ρ, A, st, ?_⟩
  unfold sB at h
  cases hs : S ρ with
  | bad => simp only [hs, Res.bind] at h
  | exc x => simp only [hs, Res.bind] at h; exact h
  | ok d => simp only [hs, Res.bind] at h; exact fun P' H' e => h _ P' H' [] e (.bl d) Fresh.nil
def sNotV (S : Env → Res D) : Env → Res D := sB (sNot (sTest S))
theorem e_not {S : Env → Res D} (h : EOk X W a S) : EOk X W (.UnaryOp .Not a pos) (sNotV S) := ⟨PE.imp (pe_not h.pe) fun σ H Q q => by
  have q1 := val_of q
  obtain ⟨P, ρ, A, st, q1⟩ := q1
  have q2 : tT (gd X) W (sTest S) σ H fun k H' => Q (.bl (!k)) H' := ⟨P, ρ, A, st, by
    unfold sNot at q1
    cases hs : sTest S ρ <;> simp only [hs, Res.bind] at q1 <;> exact q1⟩
  exact test_of q2⟩
def sAnd (Sa Sb : Env → Res D) : Env → Res D := fun ρ => (Sa ρ).bind fun x => (asB x).bind fun k => if k = true then Sb ρ else .ok (.bl false)
def sOr (Sa Sb : Env → Res D) : Env → Res D := fun ρ => (Sa ρ).bind fun x => (asB x).bind fun k => if k = true then .ok (.bl true) else Sb ρ
theorem e_one {op : BoolOp} (h : EOk X W a Sa) : EOk X W (.BoolOp op [a] pos) Sa := ⟨pe_one h.pe⟩
theorem e_and {r : List Expr} (ha : EOk X W a Sa) (hb : EOk X W (.BoolOp .And (b :: r) pos) Sb) : EOk X W (.BoolOp .And (a :: b :: r) pos) (sAnd Sa Sb) := ⟨PE.imp (pe_and ha.pe hb.pe) fun σ H Q ⟨P, ρ, A, st, q⟩ => ⟨P, ρ, A, st, by
  unfold sAnd at q
  cases hs : Sa ρ with
  | bad => simp only [hs, Res.bind] at q
  | exc x => simp only [hs, Res.bind] at q; exact q
  | ok d =>
    simp only [hs, Res.bind] at q
    intro v P1 H1 B e1 r f
    cases d with
    | bl k =>
      cases r
      refine ⟨k, rfl, ?_⟩
      cases k with
      | false => simp only [asB, Bool.false_eq_true, if_false] at q ⊢; exact q _ P1 H1 [] e1 (.bl false) Fresh.nil
      | true =>
        simp only [asB, if_true] at q ⊢
        refine ⟨P1, ρ, A, st.ext e1, ?_⟩
        cases ht : Sb ρ with
        | bad => simp only [ht] at q
        | exc x => simp only [ht] at q; exact PostX.ext q st.und e1
        | ok k' => simp only [ht] at q; exact Post.ext q st.und e1
    | _ => simp only [asB] at q⟩⟩
def sNil : Env → Res (List D) := fun _ => .ok []
def sCons (S : Env → Res D) (T : Env → Res (List D)) : Env → Res (List D) := fun ρ => (S ρ).bind fun d => (T ρ).bind fun ds => .ok (d :: ds)
theorem a_nil : AOk X W [] sNil := ⟨PA.imp pa_nil fun σ H Q ⟨P, ρ, A, st, q⟩ => q [] P H [] (Ext.refl st.und) .nil Fresh.nil⟩
theorem ab_nil : ABOk X W [] sNil := ⟨PA.imp pa_nil fun σ H Q ⟨P, ρ, A, st, q⟩ => q [] P H [] (Ext.refl st.und) .nil fun b h => by simp at h⟩
theorem a_cons {es : List Expr} {S : Env → Res D} {T : Env → Res (List D)} (h : EOk X W e S) (t : AOk X W es T) (hs : starEach (e :: es) X.env = (false, eval e X.env) :: starEach es X.env := by rfl) : AOk X W (e :: es) (sCons S T) := ⟨PA.imp (pa_cons h.pe t.pa hs) fun σ H Q ⟨P, ρ, A, st, q⟩ => ⟨P, ρ, A, st, by
  unfold sCons at q
  cases hs : S ρ with
  | bad => simp only [hs, Res.bind] at q
  | exc x => simp only [hs, Res.bind] at q; exact q
  | ok d =>
    simp only [hs, Res.bind] at q
    intro v P1 H1 B1 e1 r1 f1
    refine ⟨P1, ρ, A, st.ext e1, ?_⟩
    cases ht : T ρ with
    | bad => simp only [ht] at q
    | exc x => simp only [ht] at q; exact PostX.ext q st.und e1
    | ok ds =>
      simp only [ht] at q
      intro vs P2 H2 B2 e2 r2 f2
      have o1 : ∀ b ∈ B1, P1 b = none := fun b hb => (f1.2 b hb).2
      refine q _ P2 H2 (B1 ++ B2) (e1.trans st.und e2) (.cons (r1.ext e2 o1) r2) ⟨?_, fun b hb => ?_⟩
      · refine List.nodup_append.mpr ⟨f1.1, f2.1, fun x hx y hy z => ?_⟩
        obtain ⟨o, ho⟩ := r1.at x hx
        rw [z, (f2.2 y hy).1] at ho; cases ho
      · rcases List.mem_append.mp hb with hb | hb
        · exact ⟨(f1.2 b hb).1, (e2.own r1.at o1).2 b hb⟩
        · exact ⟨e1.free st.und (f2.2 b hb).1, (f2.2 b hb).2⟩⟩⟩
theorem ab_cons {es : List Expr} {S : Env → Res D} {T : Env → Res (List D)} (h : BOk X W e S) (t : ABOk X W es T) (hs : starEach (e :: es) X.env = (false, eval e X.env) :: starEach es X.env := by rfl) : ABOk X W (e :: es) (sCons S T) := ⟨PA.imp (pa_cons h.pe t.pa hs) fun σ H Q ⟨P, ρ, A, st, q⟩ => ⟨P, ρ, A, st, by
  unfold sCons at q
  cases hs : S ρ with
  | bad => simp only [hs, Res.bind] at q
  | exc x => simp only [hs, Res.bind] at q; exact q
  | ok d =>
    simp only [hs, Res.bind] at q
    intro v P1 H1 B1 e1 r1 o1
    refine ⟨P1, ρ, A, st.ext e1, ?_⟩
    cases ht : T ρ with
    | bad => simp only [ht] at q
    | exc x => simp only [ht] at q; exact PostX.ext q st.und e1
    | ok ds =>
      simp only [ht] at q
      intro vs P2 H2 B2 e2 r2 f2
      refine q _ P2 H2 (B1 ++ B2) (e1.trans st.und e2) (.cons (r1.ext e2 o1) r2) fun b hb => ?_
      rcases List.mem_append.mp hb with hb | hb
      · exact (e2.own r1.at o1).2 b hb
      · exact f2 b hb⟩⟩
end
end RL
namespace RL
open PySem PySem.Spec PyProof.Rows L2
section
variable {G : Gd} {P H : Hp} {p : Addr} {o : HO}
theorem Under.free (u : Under P H) (h : H p = none) : P p = none := by
  cases q : P p with
  | none => rfl
  | some w =>
    rcases u _ _ q with r | ⟨_, _, _, r⟩ | ⟨_, _, _, r, _⟩
    · rw [h] at r; cases r
    · rw [h] at r; cases r
    · rw [h] at r; cases r
theorem ext_own (u : Under P H) (h : H p = none) : Ext P H P (upd H p o) [] where
  same := Same.refl P
  und := fun a w q => by
    have hp : a ≠ p := fun e => by rw [e, u.free h] at q; cases q
    rw [upd_ne hp]; exact u a w q
  keep := fun b w q _ _ => by rw [upd_ne (ne_of_none q h)]; exact q
  lck := fun b o u q => by rw [upd_ne (ne_of_none q h)]; exact q
  new := fun b w q => .inl q
theorem ext_fix (u : Under P H) (h : H p = none) : Ext P H (upd P p o) (upd H p o) [] where
  same := fun b w q => by rw [upd_ne (ne_of_none q (u.free h))]; exact q
  und := fun a w q => by
    by_cases e : a = p
    · subst e; rw [upd_same] at q ⊢; exact .inl q
    · rw [upd_ne e] at q ⊢
      rcases u a w q with z | z | ⟨q', ps, z1, z2, z3, z4⟩
      · exact .inl z
      · exact .inr (.inl z)
      · refine .inr (.inr ⟨q', ps, z1, z2, z3, fun pos cv hc => ?_⟩)
        obtain ⟨c, e1, e2⟩ := z4 pos cv hc
        exact ⟨c, e1, by rw [upd_ne (ne_of_none e2 (u.free h))]; exact e2⟩
  keep := fun b w q _ _ => by rw [upd_ne (ne_of_none q h)]; exact q
  lck := fun b o u q => by rw [upd_ne (ne_of_none q h)]; exact q
  new := fun b w q => by
    by_cases e : b = p
    · subst e; exact .inr (.inl h)
    · rw [upd_ne e] at q; exact .inl q
theorem post_val {Q : VK} {v : V} {d : D} (u : Under P H) (h : Post G P H Q d) (r : Rel G P H v d []) : Q v H := h v P H [] (Ext.refl u) r Fresh.nil
theorem fresh1 (u : Under P H) (h : H p = none) : Fresh P H [p] := ⟨by simp, fun b hb => by
  have e : b = p := by simpa using hb
  subst e; exact ⟨h, u.free h⟩⟩
theorem post_lst {Q : VK} {ds : List D} {xs : List V} (u : Under P H) (h : Post G P H Q (.lst true ds)) (r : RelL G P H xs ds []) (hp : H p = none) : Q (.ref p) (upd H p (.lst xs)) :=
  h _ _ _ _ (ext_own u hp) (.lstO upd_same (r.mono (Same.refl P) (by simp))) (fresh1 u hp)
theorem post_tup {Q : VK} {ds : List D} {xs : List V} (u : Under P H) (h : Post G P H Q (.tup ds)) (r : RelL G P H xs ds []) (hp : H p = none) : Q (.ref p) (upd H p (.tup xs)) :=
  h _ _ _ _ (ext_fix u hp) (.tup (SqT.of upd_same) (r.mono (ext_fix (o := .tup xs) u hp).same (by simp))) Fresh.nil
theorem post_dct {Q : VK} {ks : List Key} {ds : List D} {xs : List V} (u : Under P H) (h : Post G P H Q (.dct true ks ds)) (hl : ks.length = xs.length) (r : RelL G P H xs ds []) (hp : H p = none) : Q (.ref p) (upd H p (.dK (ks.zip xs))) :=
  h _ _ _ _ (ext_own u hp) (.dctO upd_same hl (r.mono (Same.refl P) (by simp))) (fresh1 u hp)
theorem RelL.append {G : Gd} {P H : Hp} : ∀ {xs ys : List V} {ds es : List D}, RelL G P H xs ds [] → RelL G P H ys es [] → RelL G P H (xs ++ ys) (ds ++ es) []
  | _, _, _, _, r, t => by
    generalize hA : ([] : List Addr) = A at r
    induction r using RelL.rec (motive_1 := fun _ _ _ _ => True) with
    | nil => exact t
    | cons r1 r2 _ ih =>
      have e := List.append_eq_nil_iff.mp hA.symm
      obtain ⟨rfl, rfl⟩ := e
      exact .cons (A := []) (B := []) r1 (ih rfl)
    | _ => trivial
end
section
variable {G : Gd} {P H : Hp}
theorem RelL.nil_of : ∀ {xs : List V} {ds : List D} {A : List Addr}, RelL G P H xs ds A → cleanL ds = true → RelL G P H xs ds [] := fun {xs ds A} r h => by
  have e := r.clean h
  subst e
  exact r
end
def keyPy : Key → PyData
  | .inl i => .int i
  | .inr x => .str x
mutual
def D.py : D → PyData
  | .non => .none
  | .bl b => .bool b
  | .int i => .int i
  | .str x => .str x
  | .tup ds => .tuple (pyL ds)
  | .lst _ ds => .list (pyL ds)
  | .dct _ ks ds => .dict ((ks.map keyPy).zip (pyL ds))
  | _ => .none
def pyL : List D → List PyData
  | [] => []
  | d :: ds => d.py :: pyL ds
end
def fitN : Nat → D → Bool
  | _, .non => true
  | _, .bl _ => true
  | _, .int _ => true
  | _, .str x => PyData.strOk x
  | n + 1, .tup ds => ds.all (fitN n)
  | n + 1, .lst _ ds => ds.all (fitN n)
  | _, _ => false
theorem pyL_eq : ∀ ds : List D, pyL ds = ds.map D.py
  | [] => rfl
  | d :: ds => by rw [pyL, pyL_eq ds, List.map_cons]
theorem canLayAll_of : ∀ {ds : List PyData}, (∀ d ∈ ds, d.canLay0 = true) → PyData.canLayAll0 ds = true
  | [], _ => rfl
  | d :: ds, h => by
    rw [PyData.canLayAll0, h d List.mem_cons_self, canLayAll_of fun e he => h e (List.mem_cons_of_mem _ he)]
    rfl
theorem depthAll_of {n : Nat} : ∀ {ds : List PyData}, (∀ d ∈ ds, d.depth ≤ n) → PyData.depthAll ds ≤ n
  | [], _ => by simp [PyData.depthAll]
  | d :: ds, h => by
    have h1 := h d List.mem_cons_self
    have h2 := depthAll_of fun e he => h e (List.mem_cons_of_mem d he)
    simp only [PyData.depthAll]
    omega
theorem fitN_ok : ∀ {n : Nat} {d : D}, fitN n d = true → d.py.canLay0 = true ∧ d.py.depth ≤ n + 1
  | n, .non, _ => by simp [D.py, PyData.canLay0, PyData.depth]
  | n, .bl b, _ => by simp [D.py, PyData.canLay0, PyData.depth]
  | n, .int b, _ => by simp [D.py, PyData.canLay0, PyData.depth]
  | n, .str x, h => by
    refine ⟨?_, by simp [D.py, PyData.depth]⟩
    cases n <;> simpa [fitN, D.py, PyData.canLay0] using h
  | 0, .tup ds, h => by simp [fitN] at h
  | n + 1, .tup ds, h => by
    have h' : ∀ d ∈ ds, fitN n d = true := by simpa [fitN] using h
    have q : ∀ d ∈ ds.map D.py, d.canLay0 = true ∧ d.depth ≤ n + 1 := fun d hd => by
      obtain ⟨e, he, rfl⟩ := List.mem_map.mp hd
      exact fitN_ok (h' e he)
    simp only [D.py, pyL_eq, PyData.canLay0, PyData.depth]
    refine ⟨canLayAll_of fun d hd => (q d hd).1, ?_⟩
    have := depthAll_of fun d hd => (q d hd).2
    omega
  | 0, .lst _ ds, h => by simp [fitN] at h
  | n + 1, .lst _ ds, h => by
    have h' : ∀ d ∈ ds, fitN n d = true := by simpa [fitN] using h
    have q : ∀ d ∈ ds.map D.py, d.canLay0 = true ∧ d.depth ≤ n + 1 := fun d hd => by
      obtain ⟨e, he, rfl⟩ := List.mem_map.mp hd
      exact fitN_ok (h' e he)
    simp only [D.py, pyL_eq, PyData.canLay0, PyData.depth]
    refine ⟨canLayAll_of fun d hd => (q d hd).1, ?_⟩
    have := depthAll_of fun d hd => (q d hd).2
    omega
  | 0, .dct _ _ _, h => by simp [fitN] at h
  | n + 1, .dct _ _ _, h => by simp [fitN] at h
  | 0, .obj _ _ _ _, h => by simp [fitN] at h
  | n + 1, .obj _ _ _ _, h => by simp [fitN] at h
  | 0, .exn _ _ _, h => by simp [fitN] at h
  | n + 1, .exn _ _ _, h => by simp [fitN] at h
  | 0, .scr _, h => by simp [fitN] at h
  | n + 1, .scr _, h => by simp [fitN] at h
  | 0, .tux _, h => by simp [fitN] at h
  | n + 1, .tux _, h => by simp [fitN] at h
def D.fit (d : D) : Bool := fitN 60 d
theorem fit_ok {d : D} (h : d.fit = true) : SeqAt.shaped d.py = true := by
  obtain ⟨h1, h2⟩ := fitN_ok h
  unfold SeqAt.shaped
  rw [h1, decide_eq_true (show d.py.depth ≤ 64 by omega)]
  rfl
section
variable {G : Gd} {P H : Hp}
mutual
theorem Rel.dp (u : Under P H) : ∀ {n : Nat} {v : V} {d : D} {A : List Addr}, Rel G P H v d A → fitN n d = true → Dp G.K H v d.py
  | n, _, _, _, .non, _ => by rw [D.py]; exact .non
  | n, _, _, _, .bl b, _ => by rw [D.py]; exact .bl b
  | n, _, _, _, .int b, _ => by rw [D.py]; exact .int b
  | n, _, _, _, .str b, _ => by rw [D.py]; exact .str b
  | 0, _, _, _, .tup q r, h => by simp [fitN] at h
  | n + 1, _, _, _, .tup q r, h => by rw [D.py]; exact .tup (u.seqT q) (RelL.dp (n := n) u r (by simpa [fitN] using h))
  | 0, _, _, _, .lstF q r, h => by simp [fitN] at h
  | n + 1, _, _, _, .lstF q r, h => by rw [D.py]; exact .lst (u.seqL (SqL.of q)) (RelL.dp (n := n) u r (by simpa [fitN] using h))
  | 0, _, _, _, .lstO q r, h => by simp [fitN] at h
  | n + 1, _, _, _, .lstO q r, h => by rw [D.py]; exact .lst (SqL.of q) (RelL.dp (n := n) u r (by simpa [fitN] using h))
  | n, _, _, _, .scr _, h => by cases n <;> simp [fitN] at h
  | n, _, _, _, .tux _ _ _, h => by cases n <;> simp [fitN] at h
  | n, _, _, _, .dctF _ _ _, h => by cases n <;> simp [fitN] at h
  | n, _, _, _, .dctO _ _ _, h => by cases n <;> simp [fitN] at h
  | n, _, _, _, .objF _ _ _ _, h => by cases n <;> simp [fitN] at h
  | n, _, _, _, .objO _ _ _ _, h => by cases n <;> simp [fitN] at h
  | n, _, _, _, .exn _ _ _, h => by cases n <;> simp [fitN] at h
theorem RelL.dp (u : Under P H) : ∀ {n : Nat} {vs : List V} {ds : List D} {A : List Addr}, RelL G P H vs ds A → (∀ d ∈ ds, fitN n d = true) → DpAll G.K H vs (pyL ds)
  | n, _, _, _, .nil, _ => by rw [pyL]; exact .nil
  | n, _, _, _, .cons r t, h => by rw [pyL]; exact .cons (Rel.dp u r (h _ List.mem_cons_self)) (RelL.dp u t fun d hd => h d (List.mem_cons_of_mem _ hd))
end
end
def sml (i : Int) : Bool := decide (i.natAbs.log2 < 1900)
def opAdd : D → D → Option D
  | .int i, .int j => some (.int (i + j))
  | .str x, .str y => if x.length + y.length ≤ sizeLine then some (.str (x ++ y)) else none
  | .lst _ xs, .lst _ ys => if cleanL xs = true ∧ cleanL ys = true ∧ xs.length + ys.length ≤ sizeLine then some (.lst true (xs ++ ys)) else none
  | .tup xs, .tup ys => if cleanL xs = true ∧ cleanL ys = true ∧ xs ≠ [] ∧ xs.length + ys.length ≤ sizeLine then some (.tup (xs ++ ys)) else none
  | _, _ => none
def opSub : D → D → Option D
  | .int i, .int j => some (.int (i - j))
  | _, _ => none
def mulOk (i j : Int) : Bool := decide (-(2 ^ 64) < i ∧ i < 2 ^ 64) || decide (-(2 ^ 64) < j ∧ j < 2 ^ 64) || (sml i && sml j)
def opMul : D → D → Option D
  | .int i, .int j => if mulOk i j = true then some (.int (i * j)) else none
  | .lst _ ds, .int k => if cleanL ds = true ∧ -(2 ^ 63) ≤ k ∧ k < 2 ^ 63 ∧ ds.length * k.toNat ≤ sizeLine then some (.lst true (List.replicate k.toNat ds).flatten) else none
  | _, _ => none
def opFdiv : D → D → Option D
  | .int i, .int j => if j ≠ 0 ∧ sml j = true then some (.int (i.fdiv j)) else none
  | _, _ => none
def opMod : D → D → Option D
  | .int i, .int j => if j ≠ 0 then some (.int (i.fmod j)) else none
  | _, _ => none
def opLt : D → D → Option D
  | .int i, .int j => some (.bl (decide (i < j)))
  | _, _ => none
def opLe : D → D → Option D
  | .int i, .int j => some (.bl (decide (i ≤ j)))
  | _, _ => none
def opGt : D → D → Option D
  | .int i, .int j => some (.bl (decide (j < i)))
  | _, _ => none
def opGe : D → D → Option D
  | .int i, .int j => some (.bl (decide (j ≤ i)))
  | _, _ => none
def strs? : D → D → Option Bool
  | .str x, .str y => some (decide (x = y))
  | _, _ => none
theorem strs_of {x y : D} {b : Bool} (h : strs? x y = some b) : ∃ a c, x = .str a ∧ y = .str c ∧ b = decide (a = c) := by
  unfold strs? at h
  split at h
  · exact ⟨_, _, rfl, rfl, (Option.some.inj h).symm⟩
  · cases h
def opEq : D → D → Option D := fun x y => match strs? x y with
  | some b => some (.bl b)
  | none => if x.fit = true ∧ y.fit = true then some (.bl (PyData.eqv x.py y.py)) else none
def opNe : D → D → Option D := fun x y => match strs? x y with
  | some b => some (.bl (!b))
  | none => if x.fit = true ∧ y.fit = true then some (.bl (!PyData.eqv x.py y.py)) else none
def isNon : D → Bool
  | .non => true
  | _ => false
def opIs : D → D → Option D
  | d, .non => some (.bl (isNon d))
  | .bl a, .bl b => some (.bl (decide (a = b)))
  | _, _ => none
section
variable {X : Cx} {k : Nat}
theorem is_non {G : Gd} {P H : Hp} {v : V} {d : D} {A : List Addr} (r : Rel G P H v d A) : decide (v = .non) = isNon d := by
  cases r <;> simp [isNon]
theorem o_sub : OpR X (binaryOp .Sub) (rD (gd X) opSub) := by
  intro pins s σ H x y v u Q I rx ry ⟨P, dx, dy, Bx, By, un, r1, r2, o1, o2, h⟩
  cases r1 <;> first | exact h.elim | skip
  cases r2 <;> first | exact h.elim | skip
  exact op_sub pins s σ H _ _ _ _ Q I rx ry ⟨_, _, rfl, rfl, post_val un h (.int _)⟩
theorem o_add : OpR X (binaryOp .Add) (rD (gd X) opAdd) := by
  intro pins s σ H x y v u Q I rx ry ⟨P, dx, dy, Bx, By, un, r1, r2, o1, o2, h⟩
  have lst : ∀ {a b : Addr} {xs ys : List V} {ds es : List D} {A B : List Addr}, H a = some (.lst xs) → RelL (gd X) P H xs ds A → H b = some (.lst ys) → RelL (gd X) P H ys es B → RelV (.ref a) v → RelV (.ref b) u →
      (match (if cleanL ds = true ∧ cleanL es = true ∧ ds.length + es.length ≤ sizeLine then some (D.lst true (ds ++ es)) else none) with | some d => Post (gd X) P H Q d | none => False) → wpAny (model X.prog X.w) X.A (binaryOp .Add v u) (EP X pins σ Q) X.xe s := by
    intro a b xs ys ds es A B e1 q1 e2 q2 rx ry h
    split at h
    · rename_i d hd
      split at hd
      · rename_i c
        cases hd
        exact op_cat pins s σ H _ _ _ _ Q I rx ry ⟨a, b, xs, ys, rfl, rfl, e1, e2, by rw [q1.length, q2.length]; exact c.2.2, fun p hp => post_lst un h ((q1.nil_of c.1).append (q2.nil_of c.2.1)) hp⟩
      · cases hd
    · exact h.elim
  have fl : ∀ {a : Addr} {xs : List V}, P a = some (.lst xs) → H a = some (.lst xs) := fun {a xs} e => by
    rcases un _ _ e with z | ⟨_, _, z, _⟩ | ⟨_, _, z, _⟩
    · exact z
    · cases z
    · cases z
  cases r1 with
  | int i =>
    cases r2 <;> first | exact h.elim | skip
    exact op_add pins s σ H _ _ _ _ Q I rx ry ⟨_, _, rfl, rfl, post_val un h (.int _)⟩
  | str i =>
    cases r2 <;> first | exact h.elim | skip
    rename_i j
    simp only [opAdd] at h
    split at h
    · rename_i d hd
      split at hd
      · rename_i c
        cases hd
        exact op_add_str pins s σ H _ _ _ _ Q I rx ry ⟨_, _, rfl, rfl, c, post_val un h (.str _)⟩
      · cases hd
    · exact h.elim
  | lstF e1 q1 =>
    cases r2 <;> first | exact h.elim | skip
    · rename_i e2 q2; exact lst (fl e1) q1 (fl e2) q2 rx ry h
    · rename_i e2 q2; exact lst (fl e1) q1 e2 q2 rx ry h
  | lstO e1 q1 =>
    cases r2 <;> first | exact h.elim | skip
    · rename_i e2 q2; exact lst e1 q1 (fl e2) q2 rx ry h
    · rename_i e2 q2; exact lst e1 q1 e2 q2 rx ry h
  | tup e1 q1 =>
    cases r2 <;> first | exact h.elim | skip
    rename_i e2 q2
    simp only [opAdd] at h
    split at h
    · rename_i d hd
      split at hd
      · rename_i c
        cases hd
        have n1 := q1.length
        have n2 := q2.length
        refine op_catT pins s σ H _ _ _ _ Q I rx ry ⟨_, _, _, _, rfl, rfl, un.seqT e1, un.seqT e2, ?_, by rw [n1, n2]; exact c.2.2.2, ?_⟩
        · intro z; rw [z] at n1; exact c.2.2.1 (List.eq_nil_of_length_eq_zero n1.symm)
        · refine ⟨fun z => ?_, fun _ p hp => post_tup un h ((q1.nil_of c.1).append (q2.nil_of c.2.1)) hp⟩
          rw [z] at n2
          have z2 := List.eq_nil_of_length_eq_zero n2.symm
          rw [z2, List.append_nil] at h
          exact post_val un h (.tup e1 (q1.nil_of c.1))
      · cases hd
    · exact h.elim
  | _ => exact h.elim
theorem RelL.rep {G : Gd} {P H : Hp} {xs : List V} {ds : List D} (r : RelL G P H xs ds []) : ∀ n : Nat, RelL G P H (List.replicate n xs).flatten (List.replicate n ds).flatten []
  | 0 => .nil
  | n + 1 => by
    rw [List.replicate_succ, List.replicate_succ, List.flatten_cons, List.flatten_cons]
    exact r.append (RelL.rep r n)
theorem o_mul : OpR X (binaryOp .Mult) (rD (gd X) opMul) := by
  intro pins s σ H x y v u Q I rx ry ⟨P, dx, dy, Bx, By, un, r1, r2, o1, o2, h⟩
  have lst : ∀ {a : Addr} {xs : List V} {ds : List D} {A : List Addr}, H a = some (.lst xs) → RelL (gd X) P H xs ds A → RelV (.ref a) v → (match opMul (.lst true ds) dy with | some d => Post (gd X) P H Q d | none => False) → wpAny (model X.prog X.w) X.A (binaryOp .Mult v u) (EP X pins σ Q) X.xe s := by
    intro a xs ds A e1 q1 rx h
    cases r2 <;> first | exact h.elim | skip
    rename_i k _
    simp only [opMul] at h
    split at h
    · rename_i d hd
      split at hd
      · rename_i c
        cases hd
        exact op_rep pins s σ H _ _ _ _ Q I rx ry ⟨a, k, xs, rfl, rfl, e1, c.2.1, c.2.2.1, by rw [q1.length]; exact c.2.2.2, fun p hp => post_lst un h ((q1.nil_of c.1).rep _) hp⟩
      · cases hd
    · exact h.elim
  cases r1 <;> first | exact h.elim | skip
  case lstF e1 q1 =>
    refine lst ?_ q1 rx (by cases dy <;> exact h)
    rcases un _ _ e1 with z | ⟨_, _, z, _⟩ | ⟨_, _, z, _⟩
    · exact z
    · cases z
    · cases z
  case lstO e1 q1 => exact lst e1 q1 rx (by cases dy <;> exact h)
  cases r2 <;> first | exact h.elim | skip
  rename_i i j
  simp only [opMul] at h
  split at h
  · rename_i d hd
    split at hd
    · rename_i c
      cases hd
      simp only [mulOk, sml, Bool.or_eq_true, Bool.and_eq_true, decide_eq_true_eq] at c
      rcases c with (c | c) | c
      · exact op_mul pins s σ H _ _ _ _ Q I rx ry ⟨_, _, rfl, rfl, .inl c, post_val un h (.int _)⟩
      · exact op_mul pins s σ H _ _ _ _ Q I rx ry ⟨_, _, rfl, rfl, .inr c, post_val un h (.int _)⟩
      · exact op_mulW pins s σ H _ _ _ _ Q I rx ry ⟨_, _, rfl, rfl, (by show _ + _ < 1000000; omega), post_val un h (.int _)⟩
    · cases hd
  · exact h.elim
theorem o_fdiv : OpR X (binaryOp .FloorDiv) (rD (gd X) opFdiv) := by
  intro pins s σ H x y v u Q I rx ry ⟨P, dx, dy, Bx, By, un, r1, r2, o1, o2, h⟩
  cases r1 <;> first | exact h.elim | skip
  cases r2 <;> first | exact h.elim | skip
  rename_i i j
  simp only [opFdiv] at h
  split at h
  · rename_i d hd
    split at hd
    · rename_i c
      cases hd
      obtain ⟨t, rfl⟩ := rx
      obtain ⟨t', rfl⟩ := ry
      simp only [sml, decide_eq_true_eq] at c
      exact floordiv_int c.1 ⟨.int _, H, I.tok _, ⟨_, rfl⟩, post_val un h (.int _)⟩ (.inl (PyProof.noPylong_of_log2 (by omega)))
    · cases hd
  · exact h.elim
theorem o_mod : OpR X (binaryOp .Mod) (rD (gd X) opMod) := by
  intro pins s σ H x y v u Q I rx ry ⟨P, dx, dy, Bx, By, un, r1, r2, o1, o2, h⟩
  cases r1 <;> first | exact h.elim | skip
  cases r2 <;> first | exact h.elim | skip
  rename_i i j
  simp only [opMod] at h
  split at h
  · rename_i d hd
    split at hd
    · rename_i c
      cases hd
      exact op_modN pins s σ H _ _ _ _ Q I rx ry ⟨_, _, rfl, rfl, c, post_val un h (.int _)⟩
    · cases hd
  · exact h.elim
theorem o_lt : OpR X (compareOp .Lt) (rD (gd X) opLt) := by
  intro pins s σ H x y v u Q I rx ry ⟨P, dx, dy, Bx, By, un, r1, r2, o1, o2, h⟩
  cases r1 <;> first | exact h.elim | skip
  cases r2 <;> first | exact h.elim | skip
  exact op_lt pins s σ H _ _ _ _ Q I rx ry ⟨_, _, rfl, rfl, post_val un h (.bl _)⟩
theorem o_le : OpR X (compareOp .LtE) (rD (gd X) opLe) := by
  intro pins s σ H x y v u Q I rx ry ⟨P, dx, dy, Bx, By, un, r1, r2, o1, o2, h⟩
  cases r1 <;> first | exact h.elim | skip
  cases r2 <;> first | exact h.elim | skip
  exact op_le pins s σ H _ _ _ _ Q I rx ry ⟨_, _, rfl, rfl, post_val un h (.bl _)⟩
theorem o_gt : OpR X (compareOp .Gt) (rD (gd X) opGt) := by
  intro pins s σ H x y v u Q I rx ry ⟨P, dx, dy, Bx, By, un, r1, r2, o1, o2, h⟩
  cases r1 <;> first | exact h.elim | skip
  cases r2 <;> first | exact h.elim | skip
  exact op_gt pins s σ H _ _ _ _ Q I rx ry ⟨_, _, rfl, rfl, post_val un h (.bl _)⟩
theorem o_ge : OpR X (compareOp .GtE) (rD (gd X) opGe) := by
  intro pins s σ H x y v u Q I rx ry ⟨P, dx, dy, Bx, By, un, r1, r2, o1, o2, h⟩
  cases r1 <;> first | exact h.elim | skip
  cases r2 <;> first | exact h.elim | skip
  exact op_ge pins s σ H _ _ _ _ Q I rx ry ⟨_, _, rfl, rfl, post_val un h (.bl _)⟩
theorem o_eq (hr : Room k X.A) : OpR X (compareOp .Eq) (rD (gd X) opEq) := by
  intro pins s σ H x y v u Q I rx ry ⟨P, dx, dy, Bx, By, un, r1, r2, o1, o2, h⟩
  unfold opEq at h
  cases hst : strs? dx dy with
  | some b =>
    obtain ⟨a, c, rfl, rfl, rfl⟩ := strs_of hst
    rw [hst] at h
    cases r1
    cases r2
    refine op_eq pins s σ H _ _ _ _ Q I rx ry ⟨rfl, ?_⟩
    have e : decide (V.str a = V.str c) = decide (a = c) := decide_eq_decide.mpr ⟨fun z => V.str.inj z, fun z => congrArg V.str z⟩
    rw [e]
    exact post_val un h (.bl _)
  | none =>
    rw [hst] at h
    by_cases c : dx.fit = true ∧ dy.fit = true
    · simp only [c, and_self, if_true] at h
      exact op_eqD hr.units pins s σ H _ _ _ _ Q I rx ry ⟨_, _, r1.dp un c.1, r2.dp un c.2, fit_ok c.1, fit_ok c.2, post_val un h (.bl _)⟩
    · simp only [c, if_false] at h
theorem o_ne (hr : Room k X.A) : OpR X (compareOp .NotEq) (rD (gd X) opNe) := by
  intro pins s σ H x y v u Q I rx ry ⟨P, dx, dy, Bx, By, un, r1, r2, o1, o2, h⟩
  unfold opNe at h
  cases hst : strs? dx dy with
  | some b =>
    obtain ⟨a, c, rfl, rfl, rfl⟩ := strs_of hst
    rw [hst] at h
    cases r1
    cases r2
    refine op_ne pins s σ H _ _ _ _ Q I rx ry ⟨rfl, ?_⟩
    have e : decide (V.str a = V.str c) = decide (a = c) := decide_eq_decide.mpr ⟨fun z => V.str.inj z, fun z => congrArg V.str z⟩
    rw [e]
    exact post_val un h (.bl _)
  | none =>
    rw [hst] at h
    by_cases c : dx.fit = true ∧ dy.fit = true
    · simp only [c, and_self, if_true] at h
      exact op_neD hr.units pins s σ H _ _ _ _ Q I rx ry ⟨_, _, r1.dp un c.1, r2.dp un c.2, fit_ok c.1, fit_ok c.2, post_val un h (.bl _)⟩
    · simp only [c, if_false] at h
theorem o_is : OpR X (compareOp .Is) (rD (gd X) opIs) := by
  intro pins s σ H x y v u Q I rx ry ⟨P, dx, dy, Bx, By, un, r1, r2, o1, o2, h⟩
  cases r2 with
  | non =>
    have e := is_non r1
    refine op_isN pins s σ H _ _ _ _ Q I rx ry ⟨rfl, ?_⟩
    rw [e]
    cases r1 <;> exact post_val un h (.bl _)
  | bl b =>
    cases r1 <;> first | exact h.elim | skip
    exact op_isBl pins s σ H _ _ _ _ Q I rx ry ⟨_, _, rfl, rfl, post_val un h (.bl _)⟩
  | _ => cases r1 <;> exact h.elim
end
end RL
namespace RL
open PySem PySem.Spec PyProof.Rows L2
section
variable {G : Gd} {P H : Hp}
theorem atI_rel {vs : List V} {ds : List D} {A : List Addr} {i : Int} {d : D} (r : RelL G P H vs ds A) (e : atI ds i = some d) : ∃ v B, atI vs i = some v ∧ Rel G P H v d B ∧ ∀ b ∈ B, b ∈ A := by
  unfold atI at e ⊢
  rw [r.length]
  cases h : ixN ds.length i with
  | none => rw [h] at e; cases e
  | some j =>
    rw [h] at e
    exact r.get e
def lookD : List Key → List D → Key → Option D
  | k :: ks, d :: ds, j => if k = j then some d else lookD ks ds j
  | _, _, _ => none
theorem lookD_rel : ∀ {ks : List Key} {vs : List V} {ds : List D} {A : List Addr} {k : Key} {d : D}, RelL G P H vs ds A → ks.length = vs.length → lookD ks ds k = some d → ∃ v B, valV (ks.zip vs) k = some v ∧ Rel G P H v d B ∧ ∀ b ∈ B, b ∈ A
  | [], _, _, _, _, _, _, _, e => by simp [lookD] at e
  | _ :: _, [], _, _, _, _, _, h, _ => by simp at h
  | k :: ks, v :: vs, _, _, j, d, .cons (d := d0) (ds := ds) r t, h, e => by
    by_cases hk : k = j
    · have e' : d0 = d := by simpa [lookD, hk] using e
      subst e'
      refine ⟨v, _, ?_, r, fun b hb => List.mem_append_left _ hb⟩
      simp [valV, hk]
    · have e' : lookD ks ds j = some d := by simpa [lookD, hk] using e
      obtain ⟨w, B, h1, h2, h3⟩ := lookD_rel t (by simpa using h) e'
      refine ⟨w, B, ?_, h2, fun b hb => List.mem_append_right _ (h3 b hb)⟩
      unfold valV at h1 ⊢
      rw [List.zip_cons_cons, List.find?_cons_of_neg (by simpa using hk)]
      exact h1
end
def keyOf : D → Option Key
  | .int i => some (.inl i)
  | .str x => some (.inr x)
  | _ => none
def opIx : D → D → Option D
  | .tup ds, .int i => atI ds i
  | .lst _ ds, .int i => atI ds i
  | .scr ns, .int i => (atI ns i).map .int
  | .str z, .int i => if z.length ≤ sizeLine then (atI z.cps.toList i).map fun c => .str ⟨#[c]⟩ else none
  | .dct _ ks ds, k => (keyOf k).bind (lookD ks ds)
  | _, _ => none
def opIxS : D → D → Option D
  | .dct _ _ _, _ => none
  | d, e => opIx d e
def rDB (G : Gd) (f : D → D → Option D) : R2 := fun x y H Q => ∃ P dx dy Bx By, Under P H ∧ Rel G P H x dx Bx ∧ Rel G P H y dy By ∧ (∀ b ∈ Bx, P b = none) ∧ (∀ b ∈ By, P b = none) ∧ match f dx dy with
  | some d => PostB G P H Q d
  | none => False
section
variable {X : Cx} {W : WX} {a b e : Expr} {pos : Pos} {Sa Sb S : Env → Res D}
theorem twoB {f : D → D → Option D} {r : R2} (hr : ∀ x y H Q, rDB (gd X) f x y H Q → r x y H Q) {σ : Sl} {H : Hp} {Q : VK} (h : tBo (gd X) W (s2 f Sa Sb) σ H Q) : tOp r (tBo (gd X) W Sa) (tBo (gd X) W Sb) σ H Q := by
  obtain ⟨P, ρ, A, st, h⟩ := h
  refine ⟨P, ρ, A, st, ?_⟩
  unfold s2 at h
  cases ha : Sa ρ with
  | bad => simp only [ha, Res.bind] at h
  | exc x => simp only [ha, Res.bind] at h; exact h
  | ok dx =>
    simp only [ha, Res.bind] at h
    intro v P1 H1 B1 e1 r1 o1
    refine ⟨P1, ρ, A, st.ext e1, ?_⟩
    cases hb : Sb ρ with
    | bad => simp only [hb] at h
    | exc x => simp only [hb] at h; exact PostX.ext h st.und e1
    | ok dy =>
      simp only [hb] at h
      intro v2 P2 H2 B2 e2 r2 o2
      refine hr _ _ _ _ ⟨P2, dx, dy, B1, B2, e2.und, r1.ext e2 o1, r2, (e2.own r1.at o1).2, o2, ?_⟩
      cases hf : f dx dy with
      | none => simp only [hf, opt] at h
      | some d => simp only [hf, opt] at h; exact PostB.ext h st.und (e1.trans st.und e2)
theorem dget_of {x : V} {P H : Hp} {o : Bool} {ks : List Key} {ds : List D} {A : List Addr} (un : Under P H) (r : Rel (gd X) P H x (.dct o ks ds) A) : ∃ d vs B, x = .ref d ∧ Rd H d (.dK (ks.zip vs)) ∧ ks.length = vs.length ∧ RelL (gd X) P H vs ds B ∧ ∀ b ∈ B, b ∈ A := by
  cases r with
  | dctF q l r =>
    refine ⟨_, _, _, rfl, ?_, l, r, fun b hb => hb⟩
    rcases un _ _ q with z | ⟨ob, _, _, z⟩ | ⟨_, _, z, _⟩
    · exact .inl z
    · exact .inr ⟨ob, z⟩
    · cases z
  | dctO q l r => exact ⟨_, _, _, rfl, .inl q, l, r, fun b hb => List.mem_cons_of_mem _ hb⟩
theorem ix_ok {x y : V} {H : Hp} {Q : VK} (h : rDB (gd X) opIxS x y H Q) : rIx X.K x y H Q := by
  obtain ⟨P, dx, dy, Bx, By, un, r1, r2, o1, o2, h⟩ := h
  cases ho : opIxS dx dy with
  | none => rw [ho] at h; exact h.elim
  | some d =>
    rw [ho] at h
    cases r1 with
    | tup q r =>
      cases r2 <;> simp [opIxS, opIx] at ho
      obtain ⟨v, B, h1, h2, h3⟩ := atI_rel r ho
      exact .inr (.inl ⟨_, _, _, v, rfl, rfl, un.seqT q, h1, h v P H B (Ext.refl un) h2 fun b hb => o1 b (h3 b hb)⟩)
    | lstF q r =>
      cases r2 <;> simp [opIxS, opIx] at ho
      obtain ⟨v, B, h1, h2, h3⟩ := atI_rel r ho
      exact .inl ⟨_, _, _, v, rfl, rfl, un.seqL (SqL.of q), h1, h v P H B (Ext.refl un) h2 fun b hb => o1 b (h3 b hb)⟩
    | lstO q r =>
      cases r2 <;> simp [opIxS, opIx] at ho
      obtain ⟨v, B, h1, h2, h3⟩ := atI_rel r ho
      exact .inl ⟨_, _, _, v, rfl, rfl, SqL.of q, h1, h v P H B (Ext.refl un) h2 fun b hb => o1 b (List.mem_cons_of_mem _ (h3 b hb))⟩
    | scr q =>
      cases r2 <;> simp [opIxS, opIx] at ho
      obtain ⟨n, hn, rfl⟩ := ho
      refine .inl ⟨_, _, _, .int n, rfl, rfl, un.seqL q, ?_, h _ P H [] (Ext.refl un) (.int n) (fun b hb => by simp at hb)⟩
      unfold atI at hn ⊢
      rw [List.length_map]
      cases hi : ixN _ _ with
      | none => rw [hi] at hn; cases hn
      | some j =>
        rw [hi] at hn
        simp only [Option.bind] at hn ⊢
        rw [List.getElem?_map, hn]; rfl
    | str z =>
      cases r2 <;> simp [opIxS, opIx] at ho
      obtain ⟨c, n, hn, rfl⟩ := ho
      exact .inr (.inr ⟨_, _, n, rfl, rfl, c, hn, h _ P H [] (Ext.refl un) (.str _) (fun b hb => by simp at hb)⟩)
    | _ => cases r2 <;> simp [opIxS, opIx] at ho
def sIx (Sa Sb : Env → Res D) : Env → Res D := s2 opIx Sa Sb
theorem b_sub (hu : X.A.units + 1 < cLine) (ha : BOk X W a Sa) (hb : BOk X W b Sb) (hs : PlainIx b := by exact fun _ _ => rfl) : BOk X W (.Subscript a b pos) (sIx Sa Sb) :=
  ⟨PE.imp (PE.or (pe_ix ix_seq ha.pe hb.pe hs) (pe_dget hu ha.pe hb.pe hs)) fun σ H Q h => by
    obtain ⟨P, ρ, A, st, h'⟩ := id h
    cases hd : Sa ρ with
    | bad => simp only [sIx, s2, hd, Res.bind] at h'
    | exc x => exact .inl ⟨P, ρ, A, st, by rw [hd]; simp only [sIx, s2, hd, Res.bind] at h'; exact h'⟩
    | ok dx =>
      by_cases hdc : ∃ o ks ds, dx = .dct o ks ds
      · refine .inr ⟨P, ρ, A, st, ?_⟩
        rw [hd]
        obtain ⟨o, ks, ds, rfl⟩ := hdc
        simp only [sIx, s2, hd, Res.bind] at h'
        intro v P1 H1 B1 e1 r1 o1
        refine ⟨P1, ρ, A, st.ext e1, ?_⟩
        cases hb : Sb ρ with
        | bad => simp only [hb] at h'
        | exc x => simp only [hb] at h'; exact PostX.ext h' st.und e1
        | ok dy =>
          simp only [hb] at h'
          intro v2 P2 H2 B2 e2 r2 o2
          have r1' := r1.ext e2 o1
          obtain ⟨d, vs, B, rfl, hdk, hl, rl, hB⟩ := dget_of e2.und r1'
          cases hk : keyOf dy with
          | none => simp only [opIx, hk, Option.bind, opt] at h'
          | some k =>
            simp only [opIx, hk, Option.bind] at h'
            cases hlk : lookD ks ds k with
            | none => simp only [hlk, opt] at h'
            | some dv =>
              simp only [hlk, opt] at h'
              obtain ⟨w, C, hw, rw', hC⟩ := lookD_rel rl hl hlk
              refine ⟨d, w, rfl, .inl ⟨_, k, hdk, ?_, hw.symm⟩, PostB.ext h' st.und (e1.trans st.und e2) _ P2 H2 C (Ext.refl e2.und) rw' fun b hb => (e2.own r1.at o1).2 b (hB b (hC b hb))⟩
              cases r2 <;> simp [keyOf] at hk <;> subst hk <;> rfl
      · have hne : ∀ o ks ds, dx ≠ .dct o ks ds := fun o ks ds e => hdc ⟨o, ks, ds, e⟩
        have heq : s2 opIxS Sa Sb ρ = s2 opIx Sa Sb ρ := by
          simp only [s2, hd, Res.bind]
          cases Sb ρ with
          | ok dy => cases dx <;> first | exact absurd rfl (hne _ _ _) | rfl
          | exc x => rfl
          | bad => rfl
        refine .inl (twoB (f := opIxS) (fun x y H2 Q2 h2 => ix_ok h2) (Sa := Sa) (Sb := Sb) ⟨P, ρ, A, st, by rw [heq]; exact h'⟩)⟩
structure POk (X : Cx) (W : WX) (e : Option Expr) (S : Env → Res (Option Int)) : Prop where
  po : PO X e fun σ H Q => ∃ P ρ A, StRel (gd X) P H σ ρ A ∧ match S ρ with
    | .ok i => ∀ P' H', Ext P H P' H' [] → Q i H'
    | .exc x => PostX (gd X) P H W σ x
    | .bad => False
theorem PO.imp {X : Cx} {e : Option Expr} {t t' : TO} (h : PO X e t) (f : ∀ σ H Q, t' σ H Q → t σ H Q) : PO X e t' := ⟨fun pins s σ H Q I q => h.run pins s σ H Q I (f σ H Q q)⟩
def asI : D → Res Int
  | .int i => .ok i
  | _ => .bad
def sPn : Env → Res (Option Int) := fun _ => .ok none
def sPs (S : Env → Res D) : Env → Res (Option Int) := fun ρ => (S ρ).bind fun d => (asI d).bind fun i => .ok (some i)
theorem p_none : POk X W none sPn := ⟨PO.imp po_none fun σ H Q ⟨P, ρ, A, st, q⟩ => q P H (Ext.refl st.und)⟩
theorem p_some (h : BOk X W e S) : POk X W (some e) (sPs S) := ⟨PO.imp (po_some h.pe) fun σ H Q ⟨P, ρ, A, st, q⟩ => ⟨P, ρ, A, st, by
  unfold sPs at q
  cases hs : S ρ with
  | bad => simp only [hs, Res.bind] at q
  | exc x => simp only [hs, Res.bind] at q; exact q
  | ok d =>
    simp only [hs, Res.bind] at q
    intro v P' H' B e r f
    cases d with
    | int i => cases r; exact ⟨i, rfl, q P' H' e⟩
    | _ => simp only [asI] at q⟩⟩
def cutL {α : Type} (xs : List α) (lo hi : Option Int) : List α := (xs.drop (HT.sIx xs.length 0 lo)).take (HT.sIx xs.length xs.length hi - HT.sIx xs.length 0 lo)
theorem RelL.drop {G : Gd} {P H : Hp} : ∀ (n : Nat) {vs : List V} {ds : List D}, RelL G P H vs ds [] → RelL G P H (vs.drop n) (ds.drop n) [] := fun n {vs ds} r => by
  generalize hA : ([] : List Addr) = A at r
  induction n generalizing vs ds A with
  | zero => subst hA; exact r
  | succ n ih =>
    cases r with
    | nil => exact .nil
    | cons r1 r2 =>
      have e := List.append_eq_nil_iff.mp hA.symm
      obtain ⟨rfl, rfl⟩ := e
      exact ih _ rfl r2
theorem RelL.take {G : Gd} {P H : Hp} : ∀ (n : Nat) {vs : List V} {ds : List D}, RelL G P H vs ds [] → RelL G P H (vs.take n) (ds.take n) [] := fun n {vs ds} r => by
  generalize hA : ([] : List Addr) = A at r
  induction n generalizing vs ds A with
  | zero => subst hA; exact .nil
  | succ n ih =>
    cases r with
    | nil => exact .nil
    | cons r1 r2 =>
      have e := List.append_eq_nil_iff.mp hA.symm
      obtain ⟨rfl, rfl⟩ := e
      exact .cons (A := []) (B := []) r1 (ih _ rfl r2)
theorem RelL.cut {G : Gd} {P H : Hp} {vs : List V} {ds : List D} (r : RelL G P H vs ds []) (lo hi : Option Int) : RelL G P H (cutV vs lo hi) (cutL ds lo hi) [] := by
  unfold cutV cutL
  rw [r.length]
  exact RelL.take _ (RelL.drop _ r)
theorem ints_rel {G : Gd} {P H : Hp} : ∀ ns : List Int, RelL G P H (ns.map V.int) (ns.map D.int) []
  | [] => .nil
  | n :: ns => .cons (A := []) (B := []) (.int n) (ints_rel ns)
def opSl (d : D) (lo hi : Option Int) : Option D := match d with
  | .lst _ ds => if cleanL ds = true then some (.lst true (cutL ds lo hi)) else none
  | .tup ds => if cleanL ds = true ∧ ¬ (HT.sIx ds.length 0 lo = 0 ∧ HT.sIx ds.length ds.length hi = ds.length) then some (.tup (cutL ds lo hi)) else none
  | .str z => if z.length ≤ sizeLine then some (.str (cutS z lo hi)) else none
  | .scr ns => some (.lst true ((cutL ns lo hi).map .int))
  | _ => none
def sSl (S : Env → Res D) (L U : Env → Res (Option Int)) : Env → Res D := fun ρ => (S ρ).bind fun d => (L ρ).bind fun lo => (U ρ).bind fun hi => opt (opSl d lo hi)
theorem SlR.or {X : Cx} {r r' : V → Option Int → Option Int → Hp → VK → Prop} (h : SlR X r) (h' : SlR X r') : SlR X fun x lo hi H Q => r x lo hi H Q ∨ r' x lo hi H Q := by
  intro pins s σ H x v vl vu lo hi sl Q I rx hs pl pu q
  rcases q with q | q
  · exact h pins s σ H x v vl vu lo hi sl Q I rx hs pl pu q
  · exact h' pins s σ H x v vl vu lo hi sl Q I rx hs pl pu q
theorem e_slice {lo hi : Option Expr} {p2 : Pos} {L U : Env → Res (Option Int)} (he : BOk X W e S) (hl : POk X W lo L) (hh : POk X W hi U) : EOk X W (.Subscript e (.Slice lo hi none p2) pos) (sSl S L U) :=
  ⟨PE.imp (pe_slice (SlR.or sl_list (SlR.or sl_tup sl_str)) he.pe hl.po hh.po) fun σ H Q ⟨P, ρ, A, st, h⟩ => ⟨P, ρ, A, st, by
    unfold sSl at h
    cases hs : S ρ with
    | bad => simp only [hs, Res.bind] at h
    | exc x => simp only [hs, Res.bind] at h; exact h
    | ok d =>
      simp only [hs, Res.bind] at h
      intro v P1 H1 B1 e1 r1 o1
      refine ⟨P1, ρ, A, st.ext e1, ?_⟩
      cases hL : L ρ with
      | bad => simp only [hL] at h
      | exc x => simp only [hL] at h; exact PostX.ext h st.und e1
      | ok l =>
        simp only [hL] at h
        intro P2 H2 e2
        have e12 := e1.trans st.und e2
        refine ⟨P2, ρ, A, st.ext e12, ?_⟩
        cases hU : U ρ with
        | bad => simp only [hU] at h
        | exc x => simp only [hU] at h; exact PostX.ext h st.und e12
        | ok u =>
          simp only [hU] at h
          intro P3 H3 e3
          have e13 := e12.trans st.und e3
          have r3 := (r1.ext e2 o1).ext e3 (e2.own r1.at o1).2
          cases ho : opSl d l u with
          | none => simp only [ho, opt] at h
          | some z =>
            simp only [ho, opt] at h
            have q := Post.ext h st.und e13
            have un := e13.und
            clear h
            cases r3 with
            | tup q1 r =>
              simp only [opSl] at ho
              split at ho
              · rename_i c
                cases ho
                refine .inr (.inl ⟨_, _, rfl, un.seqT q1, ?_, fun p hp => post_tup un q ((r.nil_of c.1).cut l u) hp⟩)
                rw [r.length]; exact c.2
              · cases ho
            | lstF q1 r =>
              simp only [opSl] at ho
              split at ho
              · rename_i c
                cases ho
                exact .inl ⟨_, _, rfl, un.seqL (SqL.of q1), fun p hp => post_lst un q ((r.nil_of c).cut l u) hp⟩
              · cases ho
            | lstO q1 r =>
              simp only [opSl] at ho
              split at ho
              · rename_i c
                cases ho
                exact .inl ⟨_, _, rfl, SqL.of q1, fun p hp => post_lst un q ((r.nil_of c).cut l u) hp⟩
              · cases ho
            | @scr a0 ns q1 =>
              simp only [opSl] at ho
              cases ho
              refine .inl ⟨_, _, rfl, un.seqL q1, fun p hp => ?_⟩
              have e : cutV (ns.map V.int) l u = (cutL ns l u).map V.int := by
                unfold cutV cutL
                rw [List.length_map, List.map_take, List.map_drop]
              rw [e]
              exact post_lst un q (ints_rel _) hp
            | str x =>
              simp only [opSl] at ho
              split at ho
              · rename_i c
                cases ho
                exact .inr (.inr ⟨_, rfl, c, post_val un q (.str _)⟩)
              · cases ho
            | _ => simp [opSl] at ho⟩⟩
def s1 (f : D → Option D) (S : Env → Res D) : Env → Res D := fun ρ => (S ρ).bind fun d => opt (f d)
def sTup (S : Env → Res (List D)) : Env → Res D := fun ρ => (S ρ).bind fun ds => if ds.length ≤ sizeLine then .ok (.tup ds) else .bad
def sLst (S : Env → Res (List D)) : Env → Res D := fun ρ => (S ρ).bind fun ds => if ds.length ≤ sizeLine then .ok (.lst true ds) else .bad
theorem e_tup {es : List Expr} {k : Nat} {S : Env → Res (List D)} (h : AOk X W es S) : EOk X W (.Tuple es k pos) (sTup S) := ⟨PE.imp (pe_tup h.pa) fun σ H Q ⟨P, ρ, A, st, h⟩ => ⟨P, ρ, A, st, by
  unfold sTup at h
  cases hs : S ρ with
  | bad => simp only [hs, Res.bind] at h
  | exc x => simp only [hs, Res.bind] at h; exact h
  | ok ds =>
    simp only [hs, Res.bind] at h
    intro vs P1 H1 B e1 r f
    split at h
    · rename_i d hd
      split at hd
      · rename_i c
        cases hd
        refine ⟨by rw [r.length]; exact c, fun p hp => ?_⟩
        have e2 := ext_fix (o := .tup vs) e1.und hp
        have o1 : ∀ b ∈ B, P1 b = none := fun b hb => (f.2 b hb).2
        refine h _ _ _ B (e1.trans st.und e2) (.tup (SqT.of upd_same) (r.ext e2 o1)) ⟨f.1, fun b hb => ⟨(f.2 b hb).1, (e2.own r.at o1).2 b hb⟩⟩
      · cases hd
    · rename_i hd; split at hd <;> cases hd
    · exact h.elim⟩⟩
theorem e_lst {es : List Expr} {S : Env → Res (List D)} (h : AOk X W es S) : EOk X W (.List es pos) (sLst S) := ⟨PE.imp (pe_lst h.pa) fun σ H Q ⟨P, ρ, A, st, h⟩ => ⟨P, ρ, A, st, by
  unfold sLst at h
  cases hs : S ρ with
  | bad => simp only [hs, Res.bind] at h
  | exc x => simp only [hs, Res.bind] at h; exact h
  | ok ds =>
    simp only [hs, Res.bind] at h
    intro vs P1 H1 B e1 r f
    split at h
    · rename_i d hd
      split at hd
      · rename_i c
        cases hd
        refine ⟨by rw [r.length]; exact c, fun p hp => ?_⟩
        have e2 := ext_own (o := .lst vs) e1.und hp
        have o1 : ∀ b ∈ B, P1 b = none := fun b hb => (f.2 b hb).2
        have np : p ∉ B := fun hb => by
          obtain ⟨w, q⟩ := r.at p hb
          rw [hp] at q; cases q
        refine h _ _ _ (p :: B) (e1.trans st.und e2) (.lstO upd_same (r.ext e2 o1)) ⟨List.nodup_cons.mpr ⟨np, f.1⟩, fun b hb => ?_⟩
        rcases List.mem_cons.mp hb with rfl | hb
        · exact ⟨e1.free st.und hp, e1.und.free hp⟩
        · exact f.2 b hb
      · cases hd
    · rename_i hd; split at hd <;> cases hd
    · exact h.elim⟩⟩
theorem e_dnew : EOk X W (.Dict [] [] pos) (sC (.dct true [] [])) := ⟨PE.imp pe_dnewK fun σ H Q ⟨P, ρ, A, st, h⟩ => fun p hp => post_dct (ks := []) (xs := []) st.und h rfl .nil hp⟩
def rC (G : Gd) (f : List D → Option D) : List V → Hp → VK → Prop := fun xs H Q => ∃ P ds B, Under P H ∧ RelL G P H xs ds B ∧ (∀ b ∈ B, P b = none) ∧ match f ds with
  | some d => Post G P H Q d
  | none => False
def sCall (f : List D → Option D) (S : Env → Res (List D)) : Env → Res D := fun ρ => (S ρ).bind fun ds => opt (f ds)
theorem call_of {f : List D → Option D} {S : Env → Res (List D)} {σ : Sl} {H : Hp} {Q : VK} (h : tE (gd X) W (sCall f S) σ H Q) : tCB (rC (gd X) f) (tLB (gd X) W S) σ H Q := by
  obtain ⟨P, ρ, A, st, h⟩ := h
  refine ⟨P, ρ, A, st, ?_⟩
  unfold sCall at h
  cases hs : S ρ with
  | bad => simp only [hs, Res.bind] at h
  | exc x => simp only [hs, Res.bind] at h; exact h
  | ok ds =>
    simp only [hs, Res.bind] at h
    intro vs P1 H1 B e1 r o
    refine ⟨P1, ds, B, e1.und, r, o, ?_⟩
    cases hf : f ds with
    | none => simp only [hf, opt] at h
    | some d => simp only [hf, opt] at h; exact Post.ext h st.und e1
theorem e_callB {id : String} {x : Str} {p : Pos} {es : List Expr} {f : List D → Option D} {S : Env → Res (List D)} (hc : CallR X (.builtin id) (rC (gd X) f)) (hm : X.mg x = none) (hv : bootBuiltins x = some (.builtin id)) (ha : ABOk X W (e :: es) S)
    (hg : Gl X x := by rfl) (hn : x ≠ "__name__" := by decide) (hdb : (x == ("__debug__" : Str)) = false := by decide)
    (he : starEach (e :: es) X.env = (false, eval e X.env) :: starEach es X.env := by rfl) (hpl : (backTo pos (starEach es X.env)).any (·.1) = false := by rfl) : EOk X W (.Call (.Name x p) (e :: es) [] pos) (sCall f S) :=
  ⟨PE.imp (pe_callB hc hg hm hv ha.pa hn hdb he hpl) fun _ _ _ h => call_of h⟩
theorem e_callTy {id : String} {x : Str} {p : Pos} {es : List Expr} {f : List D → Option D} {S : Env → Res (List D)} (hc : CallR X (.type id) (rC (gd X) f)) (hm : X.mg x = none) (hv : bootBuiltins x = some (.type id)) (ha : ABOk X W (e :: es) S)
    (hg : Gl X x := by rfl) (hn : x ≠ "__name__" := by decide) (hdb : (x == ("__debug__" : Str)) = false := by decide)
    (he : starEach (e :: es) X.env = (false, eval e X.env) :: starEach es X.env := by rfl) (hpl : (backTo pos (starEach es X.env)).any (·.1) = false := by rfl) : EOk X W (.Call (.Name x p) (e :: es) [] pos) (sCall f S) :=
  ⟨PE.imp (pe_callTy hc hg hm hv ha.pa hn hdb he hpl) fun _ _ _ h => call_of h⟩
end
end RL
namespace RL
open PySem PySem.Spec PyProof.Rows L2
inductive Tg where
  | nm (i : Nat)
  | tp (ts : List Tg)
mutual
def Tg.set : Tg → D → Env → Option Env
  | .nm i, d, ρ => if i < ρ.length then some (ρ.set i (some d)) else none
  | .tp ts, .tup ds, ρ => tgSetL ts ds ρ
  | .tp ts, .lst _ ds, ρ => tgSetL ts ds ρ
  | _, _, _ => none
def tgSetL : List Tg → List D → Env → Option Env
  | [], [], ρ => some ρ
  | t :: ts, d :: ds, ρ => (t.set d ρ).bind (tgSetL ts ds)
  | _, _, _ => none
end
mutual
def Tg.slots : Tg → List Nat
  | .nm i => [i]
  | .tp ts => tgSlots ts
def tgSlots : List Tg → List Nat
  | [] => []
  | t :: ts => t.slots ++ tgSlots ts
end
theorem tgSetL_len : ∀ {ts : List Tg} {ds : List D} {ρ ρ' : Env}, tgSetL ts ds ρ = some ρ' → ts.length = ds.length
  | [], [], _, _, _ => rfl
  | [], _ :: _, _, _, h => by simp [tgSetL] at h
  | _ :: _, [], _, _, h => by simp [tgSetL] at h
  | t :: ts, d :: ds, ρ, ρ', h => by
    simp only [tgSetL] at h
    cases e : t.set d ρ with
    | none => rw [e] at h; cases h
    | some r =>
      rw [e] at h
      have q := tgSetL_len (ts := ts) (ds := ds) (ρ := r) (ρ' := ρ') h
      simp only [List.length_cons]; omega
def tG (G : Gd) (t : Tg) : TG := fun x σ H Q => ∃ P ρ A d B, StRel G P H σ ρ A ∧ Rel G P H x d B ∧ (B ++ A).Nodup ∧ (∀ b ∈ B, P b = none) ∧ match t.set d ρ with
  | some ρ' => ∀ σ' A', StRel G P H σ' ρ' A' → (∀ b ∈ A', b ∈ B ++ A) → σ'.length = σ.length → (∀ j, j ∉ t.slots → σ'[j]? = σ[j]?) → Q σ' H
  | none => False
def tGL (G : Gd) (ts : List Tg) : TGs := fun xs σ H Q => ∃ P ρ A ds B, StRel G P H σ ρ A ∧ RelL G P H xs ds B ∧ (B ++ A).Nodup ∧ (∀ b ∈ B, P b = none) ∧ match tgSetL ts ds ρ with
  | some ρ' => ∀ σ' A', StRel G P H σ' ρ' A' → (∀ b ∈ A', b ∈ B ++ A) → σ'.length = σ.length → (∀ j, j ∉ tgSlots ts → σ'[j]? = σ[j]?) → Q σ' H
  | none => False
structure GOk (X : Cx) (tg : Expr) (t : Tg) : Prop where pg : PG X tg (tG (gd X) t)
structure GsOk (X : Cx) (tgs : List Expr) (ts : List Tg) : Prop where pgs : PGs X tgs (tGL (gd X) ts)
theorem PG.imp {X : Cx} {e : Expr} {t t' : TG} (h : PG X e t) (f : ∀ x σ H Q, t' x σ H Q → t x σ H Q) : PG X e t' := ⟨fun pins s σ H v u Q I r q => h.run pins s σ H v u Q I r (f v σ H Q q)⟩
theorem PGs.imp {X : Cx} {e : List Expr} {t t' : TGs} (h : PGs X e t) (f : ∀ x σ H Q, t' x σ H Q → t x σ H Q) : PGs X e t' := ⟨fun pins s σ H v u Q I r q => h.run pins s σ H v u Q I r (f v σ H Q q)⟩
section
variable {X : Cx} {W : WX} {e a b : Expr} {pos : Pos} {Sa Sb S : Env → Res D}
theorem StRel.store {G : Gd} {P H : Hp} {σ : Sl} {ρ : Env} {A B : List Addr} {i : Nat} {x : V} {d : D} (st : StRel G P H σ ρ A) (r : Rel G P H x d B) (nd : (B ++ A).Nodup) (o : ∀ b ∈ B, P b = none) (hi : i < ρ.length) :
    ∃ A', StRel G P H (σ.set i (some x)) (ρ.set i (some d)) A' ∧ ∀ b ∈ A', b ∈ B ++ A := by
  obtain ⟨B0, C, p, q, _⟩ := st.env.out hi
  obtain ⟨A', p', q'⟩ := q.put (i := i) r (by simpa using hi) (by simp [hi])
  rw [List.set_set] at q'
  have cA : ∀ b ∈ C, b ∈ A := fun b hb => p.symm.subset (List.mem_append_right _ hb)
  have sub : ∀ b ∈ A', b ∈ B ++ A := fun b hb => (List.mem_append.mp (p'.subset hb)).elim (List.mem_append_left _) fun z => List.mem_append_right _ (cA b z)
  obtain ⟨n1, n2, n3⟩ := List.nodup_append.mp nd
  refine ⟨A', ⟨st.und, q', p'.symm.nodup_iff.mp (List.nodup_append.mpr ⟨n1, (p.nodup_iff.mp n2).sublist (List.sublist_append_right _ _), fun x hx y hy => n3 x hx y (cA y hy)⟩), fun b hb => ?_, st.mks⟩, sub⟩
  rcases List.mem_append.mp (sub b hb) with z | z
  · exact o b z
  · exact st.off b z
theorem g_nm (i : Nat) {x : Str} {p : Pos} (hN : X.N.Nodup) (hi : X.N[i]? = some x := by rfl) (hx : Loc X.env.scope x := by first | exact Or.inl rfl | exact Or.inr rfl) (hf : X.fn x = true ∨ X.env.scope.names.lookup x = some .local := by first | exact .inl rfl | exact .inr rfl) : GOk X (.Name x p) (.nm i) :=
  ⟨PG.imp (pg_name hN hi hx hf) fun v σ H Q ⟨P, ρ, A, d, B, st, r, nd, o, h⟩ => by
    simp only [Tg.set] at h
    by_cases hl : i < ρ.length
    · rw [if_pos hl] at h
      obtain ⟨A', st', sub⟩ := st.store r nd o hl
      refine h _ A' st' sub (by simp) fun j hj => ?_
      have hne : i ≠ j := fun e => hj (by simp [Tg.slots, e])
      rw [List.getElem?_set_ne hne]
    · rw [if_neg hl] at h; exact h.elim⟩
theorem gs_nil : GsOk X [] [] := ⟨PGs.imp pgs_nil fun xs σ H Q ⟨P, ρ, A, ds, B, st, r, nd, o, h⟩ => by
  cases r with
  | nil => exact ⟨rfl, h σ A st (fun b hb => by simpa using hb) rfl fun _ _ => rfl⟩
  | cons _ _ => simp only [tgSetL] at h⟩
theorem gs_cons {es : List Expr} {t : Tg} {ts : List Tg} (h1 : GOk X e t) (h2 : GsOk X es ts) (hs : (assignEach (e :: es) X.env).map (·.2) = assign e X.env :: (assignEach es X.env).map (·.2) := by rfl) : GsOk X (e :: es) (t :: ts) :=
  ⟨PGs.imp (pgs_cons h1.pg h2.pgs hs) fun xs σ H Q ⟨P, ρ, A, ds, B, st, r, nd, o, h⟩ => by
    cases r with
    | nil => simp only [tgSetL] at h
    | @cons v d B1 vs ds B2 r1 r2 =>
      obtain ⟨m1, m2, m3⟩ := List.nodup_append.mp nd
      obtain ⟨l1, l2, l3⟩ := List.nodup_append.mp m1
      refine ⟨_, _, rfl, P, ρ, A, d, B1, st, r1, List.nodup_append.mpr ⟨l1, m2, fun x hx y hy => m3 x (List.mem_append_left _ hx) y hy⟩, fun b hb => o b (List.mem_append_left _ hb), ?_⟩
      simp only [tgSetL] at h
      cases ht : t.set d ρ with
      | none => rw [ht] at h; exact h.elim
      | some ρ1 =>
        rw [ht] at h
        simp only [Option.bind] at h
        intro σ1 A1 st1 sub1 len1 fr1
        refine ⟨P, ρ1, A1, ds, B2, st1, r2, List.nodup_append.mpr ⟨l2, st1.nd, fun x hx y hy e => ?_⟩, fun b hb => o b (List.mem_append_right _ hb), ?_⟩
        · rcases List.mem_append.mp (sub1 y hy) with z | z
          · exact l3 y z x hx e.symm
          · exact m3 x (List.mem_append_right _ hx) y z e
        · cases hq : tgSetL ts ds ρ1 with
          | none => rw [hq] at h; exact h.elim
          | some ρ2 =>
            rw [hq] at h
            intro σ2 A2 st2 sub2 len2 fr2
            refine h σ2 A2 st2 (fun b hb => ?_) (len2.trans len1) fun j hj => ?_
            · rcases List.mem_append.mp (sub2 b hb) with z | z
              · exact List.mem_append_left _ (List.mem_append_right _ z)
              · rcases List.mem_append.mp (sub1 b z) with z | z
                · exact List.mem_append_left _ (List.mem_append_left _ z)
                · exact List.mem_append_right _ z
            · simp only [tgSlots, List.mem_append, not_or] at hj
              rw [fr2 j hj.2, fr1 j hj.1]⟩
theorem PG.or {X : Cx} {e : Expr} {t t' : TG} (h : PG X e t) (h' : PG X e t') : PG X e fun v σ H Q => t v σ H Q ∨ t' v σ H Q := ⟨fun pins s σ H v u Q I r q => q.elim (h.run pins s σ H v u Q I r) (h'.run pins s σ H v u Q I r)⟩
theorem g_tup {es : List Expr} {k : Nat} {ts : List Tg} (hc : X.calm = true) (h : GsOk X es ts) (hn : (assignEach es X.env).length = ts.length := by rfl) (hst : (assignEach es X.env).findIdx? (·.1) = none := by rfl) : GOk X (.Tuple es k pos) (.tp ts) :=
  ⟨PG.imp (PG.or (pg_tup hc h.pgs hn hst) (pg_lst hc h.pgs hn hst)) fun x σ H Q ⟨P, ρ, A, d, B, st, r, nd, o, h⟩ => by
    have go : ∀ {a : Addr} {xs : List V} {ds : List D} {A0 : List Addr}, RelL (gd X) P H xs ds A0 → (A0 ++ A).Nodup → (∀ b ∈ A0, b ∈ B) → (match tgSetL ts ds ρ with
        | some ρ' => ∀ σ' A', StRel (gd X) P H σ' ρ' A' → (∀ b ∈ A', b ∈ B ++ A) → σ'.length = σ.length → (∀ j, j ∉ (Tg.tp ts).slots → σ'[j]? = σ[j]?) → Q σ' H
        | none => False) → xs.length = ts.length ∧ tGL (gd X) ts xs σ H Q := by
      intro a xs ds A0 r nd sub h
      refine ⟨?_, P, ρ, A, ds, A0, st, r, nd, fun b hb => o b (sub b hb), ?_⟩
      · cases hq : tgSetL ts ds ρ with
        | none => rw [hq] at h; exact h.elim
        | some ρ' => rw [r.length, ← tgSetL_len hq]
      · cases hq : tgSetL ts ds ρ with
        | none => rw [hq] at h; exact h.elim
        | some ρ' =>
          rw [hq] at h
          exact fun σ' A' s1 s2 s3 s4 => h σ' A' s1 (fun b hb => (List.mem_append.mp (s2 b hb)).elim (fun z => List.mem_append_left _ (sub b z)) (List.mem_append_right _)) s3 (by simpa [Tg.slots] using s4)
    cases r with
    | @tup a xs ds A0 q r =>
      simp only [Tg.set] at h
      have z := go (a := a) r nd (fun b hb => hb) h
      exact .inl ⟨a, xs, rfl, st.und.seqT q, z.1, z.2⟩
    | @lstF a xs ds q r =>
      simp only [Tg.set] at h
      have z := go (a := a) r nd (fun b hb => hb) h
      exact .inr ⟨a, xs, rfl, st.und.seqL (SqL.of q), z.1, z.2⟩
    | @lstO a xs ds A0 q r =>
      simp only [Tg.set] at h
      have z := go (a := a) r (List.nodup_cons.mp (by simpa using nd)).2 (fun b hb => List.mem_cons_of_mem _ hb) h
      exact .inr ⟨a, xs, rfl, SqL.of q, z.1, z.2⟩
    | _ => simp only [Tg.set] at h⟩
structure ItOk (G : Gd) (bor : Bool) (J : It) (ds : List D) (Src : Hp → Hp → Prop) : Prop where
  stay : ∀ P H P' H' A, (bor = true → A = []) → Under P H → Ext P H P' H' A → Src P H → Src P' H'
  go : ∀ i P H, Under P H → Src P H → i < ds.length → J.go i H ∧ ∀ x H', J.yld i H x H' → ∃ P' d, Ext P H P' H' [] ∧ ds[i]? = some d ∧ Rel G P' H' x d []
  stop : ∀ i P H, Under P H → Src P H → ds.length ≤ i → J.stop i H
def tI (G : Gd) (W : WX) (bor : Bool) (S : Env → Res (List D)) : TI := fun σ H R => ∃ P ρ A, StRel G P H σ ρ A ∧ match S ρ with
  | .ok ds => ∀ J P' H' Src, ItOk G bor J ds Src → Src P' H' → Ext P H P' H' [] → R J H'
  | .exc x => PostX G P H W σ x
  | .bad => False
structure IOk (X : Cx) (W : WX) (bor : Bool) (tg e : Expr) (S : Env → Res (List D)) : Prop where pi : PI X tg e (tI (gd X) W bor S)
theorem PI.imp {X : Cx} {tg e : Expr} {t t' : TI} (h : PI X tg e t) (f : ∀ σ H R, t' σ H R → t σ H R) : PI X tg e t' := ⟨fun pins s σ H R I q => h.run pins s σ H R I (f σ H R q)⟩
theorem PI.or {X : Cx} {tg e : Expr} {t t' : TI} (h : PI X tg e t) (h' : PI X tg e t') : PI X tg e fun σ H R => t σ H R ∨ t' σ H R := ⟨fun pins s σ H R I q => q.elim (h.run pins s σ H R I) (h'.run pins s σ H R I)⟩
theorem RelL.at? {G : Gd} {P H : Hp} : ∀ {vs : List V} {ds : List D} {i : Nat}, RelL G P H vs ds [] → i < ds.length → ∃ v d, vs[i]? = some v ∧ ds[i]? = some d ∧ Rel G P H v d [] := fun {vs ds i} r h => by
  obtain ⟨v, B, h1, h2, h3⟩ := r.get (List.getElem?_eq_getElem h)
  have e : B = [] := by
    cases B with
    | nil => rfl
    | cons b B => exact absurd (h3 b List.mem_cons_self) (by simp)
  subst e
  exact ⟨v, _, h1, List.getElem?_eq_getElem h, h2⟩
theorem it_list {G : Gd} {a : Addr} {xs : List V} {ds : List D} : ItOk G false (Itl G.K a) ds fun P H => P a = some (.lst xs) ∧ RelL G P H xs ds [] where
  stay := fun P H P' H' A _ _ e ⟨h, r⟩ => ⟨e.same _ _ h, r.mono e.same (by simp)⟩
  go := fun i P H u ⟨h, r⟩ hi => by
    obtain ⟨v, d, h1, h2, h3⟩ := r.at? hi
    exact ⟨⟨xs, v, u.seqL (SqL.of h), h1⟩, fun x H' hy => by
      obtain ⟨e, y⟩ := hy
      subst e
      have q := y xs (u.seqL (SqL.of h))
      rw [h1] at q
      cases q
      exact ⟨P, d, Ext.refl u, h2, h3⟩⟩
  stop := fun i P H u ⟨h, r⟩ hi => ⟨xs, u.seqL (SqL.of h), by rw [r.length]; exact hi⟩
theorem it_listB {G : Gd} {a : Addr} {xs : List V} {ds : List D} : ItOk G true (Itl G.K a) ds fun P H => H a = some (.lst xs) ∧ P a = none ∧ RelL G P H xs ds [] where
  stay := fun P H P' H' A hA u e ⟨h, n, r⟩ => by
    obtain rfl := hA rfl
    refine ⟨e.keep _ _ h n (by simp), ?_, r.mono e.same (by simp)⟩
    exact (e.own (A := [a]) (fun b hb => by simp at hb; subst hb; exact ⟨_, h⟩) (fun b hb => by simp at hb; subst hb; exact n)).2 a (by simp)
  go := fun i P H u ⟨h, n, r⟩ hi => by
    obtain ⟨v, d, h1, h2, h3⟩ := r.at? hi
    exact ⟨⟨xs, v, SqL.of h, h1⟩, fun x H' hy => by
      obtain ⟨e, y⟩ := hy
      subst e
      have q := y xs (SqL.of h)
      rw [h1] at q
      cases q
      exact ⟨P, d, Ext.refl u, h2, h3⟩⟩
  stop := fun i P H u ⟨h, n, r⟩ hi => ⟨xs, SqL.of h, by rw [r.length]; exact hi⟩
theorem ItOk.any {G : Gd} {J : It} {ds : List D} {Src : Hp → Hp → Prop} {bor : Bool} (h : ItOk G false J ds Src) : ItOk G bor J ds Src := ⟨fun P H P' H' A _ => h.stay P H P' H' A (fun z => by cases z), h.go, h.stop⟩
theorem it_tup {G : Gd} {a : Addr} {xs : List V} {ds : List D} : ItOk G false (Itt G.K a) ds fun P H => SqT G.K P a xs ∧ RelL G P H xs ds [] where
  stay := fun P H P' H' A _ _ e ⟨h, r⟩ => ⟨Same.sqT e.same h, r.mono e.same (by simp)⟩
  go := fun i P H u ⟨h, r⟩ hi => by
    obtain ⟨v, d, h1, h2, h3⟩ := r.at? hi
    exact ⟨⟨xs, v, u.seqT h, h1⟩, fun x H' hy => by
      obtain ⟨e, y⟩ := hy
      subst e
      have q := y xs (u.seqT h)
      rw [h1] at q
      cases q
      exact ⟨P, d, Ext.refl u, h2, h3⟩⟩
  stop := fun i P H u ⟨h, r⟩ hi => ⟨xs, u.seqT h, by rw [r.length]; exact hi⟩
theorem it_scr {G : Gd} {a : Addr} {ns : List Int} : ItOk G false (Itl G.K a) (ns.map .int) fun P H => SqL G.K P a (ns.map V.int) where
  stay := fun P H P' H' A _ _ e h => Same.seq e.same h
  go := fun i P H u h hi => by
    have r : RelL G P H (ns.map V.int) (ns.map D.int) [] := ints_rel ns
    obtain ⟨v, d, h1, h2, h3⟩ := r.at? hi
    exact ⟨⟨_, v, u.seqL h, h1⟩, fun x H' hy => by
      obtain ⟨e, y⟩ := hy
      subst e
      have q := y _ (u.seqL h)
      rw [h1] at q
      cases q
      exact ⟨P, d, Ext.refl u, h2, h3⟩⟩
  stop := fun i P H u h hi => ⟨_, u.seqL h, by simpa using hi⟩
def seqD : D → Option (List D)
  | .lst _ ds => if cleanL ds = true then some ds else none
  | .tup ds => if cleanL ds = true then some ds else none
  | .scr ns => some (ns.map .int)
  | _ => none
def sSeq (S : Env → Res D) : Env → Res (List D) := fun ρ => (S ρ).bind fun d => opt (seqD d)
theorem seq_src {G : Gd} {P H P1 H1 : Hp} {B : List Addr} {d : D} {v : V} {ds : List D} {σ : Sl} {ρ : Env} {A : List Addr} (st : StRel G P H σ ρ A) (e : Ext P H P1 H1 []) (r : Rel G P1 H1 v d B) (f : Fresh P1 H B) (h : seqD d = some ds) :
    (∃ a, v = .ref a ∧ (∃ xs, SqL G.K H1 a xs) ∧ ∃ Src P2, ItOk G false (Itl G.K a) ds Src ∧ Src P2 H1 ∧ Ext P H P2 H1 []) ∨ ∃ a, v = .ref a ∧ (∃ xs, SqT G.K H1 a xs) ∧ ∃ Src P2, ItOk G false (Itt G.K a) ds Src ∧ Src P2 H1 ∧ Ext P H P2 H1 [] := by
  cases r with
  | @tup a xs ds0 A0 q r =>
    simp only [seqD] at h
    split at h
    · rename_i c
      cases h
      exact .inr ⟨a, rfl, ⟨xs, e.und.seqT q⟩, _, P1, it_tup, ⟨q, r.nil_of c⟩, e⟩
    · cases h
  | @lstF a xs ds0 q r =>
    simp only [seqD] at h
    split at h
    · rename_i c
      cases h
      exact .inl ⟨a, rfl, ⟨xs, e.und.seqL (SqL.of q)⟩, _, P1, it_list, ⟨q, r⟩, e⟩
    · cases h
  | @lstO a xs ds0 A0 q r =>
    simp only [seqD] at h
    split at h
    · rename_i c
      cases h
      have r' := r.nil_of c
      have o : ∀ b ∈ [a], P1 b = none := fun b hb => by
        have hb : b = a := by simpa using hb
        subst hb
        exact (f.2 b List.mem_cons_self).2
      have g := give_ext (A := [a]) e.und o
      refine .inl ⟨a, rfl, ⟨xs, SqL.of q⟩, _, give P1 H1 [a], it_list, ⟨by rw [give_in (by simp)]; exact q, r'.mono g.same (by simp)⟩, ?_⟩
      refine ⟨e.same.trans g.same, g.und, e.keep, e.lck, fun b w q => ?_⟩
      rcases g.new b w q with z | z | z
      · exact e.new b w z
      · exact .inr (.inl (e.free st.und z))
      · have hb : b = a := by simpa using z
        subst hb
        exact .inr (.inl (f.2 b List.mem_cons_self).1)
    · cases h
  | @scr a ns q =>
    simp only [seqD] at h
    cases h
    exact .inl ⟨a, rfl, ⟨_, e.und.seqL q⟩, _, P1, it_scr, q, e⟩
  | _ => simp [seqD] at h
theorem i_seq {bor : Bool} {tg : Expr} (h : EOk X W e S) : IOk X W bor tg e (sSeq S) := ⟨PI.imp (PI.or (pi_list h.pe) (pi_tup h.pe)) fun σ H R ⟨P, ρ, A, st, q⟩ => by
  unfold sSeq at q
  cases hs : S ρ with
  | bad => simp only [hs, Res.bind] at q
  | exc x => exact .inl ⟨P, ρ, A, st, by rw [hs]; simp only [hs, Res.bind] at q; exact q⟩
  | ok d =>
    simp only [hs, Res.bind] at q
    cases hd : seqD d with
    | none => simp only [hd, opt] at q
    | some ds =>
      simp only [hd, opt] at q
      by_cases ht : ∃ es, d = .tup es
      · refine .inr ⟨P, ρ, A, st, ?_⟩
        rw [hs]
        intro v P1 H1 B e1 r f
        rcases seq_src st e1 r f hd with ⟨a, rfl, ⟨xs, hx⟩, Src, P2, it, sr, ex⟩ | ⟨a, rfl, hx, Src, P2, it, sr, ex⟩
        · obtain ⟨es, rfl⟩ := ht
          cases r with
          | @tup a' xs' ds0 A0 q' r' =>
            simp only [seqD] at hd
            split at hd
            · rename_i c
              cases hd
              exact ⟨_, rfl, ⟨_, e1.und.seqT q'⟩, q _ P1 H1 _ it_tup.any ⟨q', r'.nil_of c⟩ e1⟩
            · cases hd
        · exact ⟨a, rfl, hx, q _ P2 H1 Src it.any sr ex⟩
      · refine .inl ⟨P, ρ, A, st, ?_⟩
        rw [hs]
        intro v P1 H1 B e1 r f
        rcases seq_src st e1 r f hd with ⟨a, rfl, hx, Src, P2, it, sr, ex⟩ | ⟨a, rfl, ⟨xs, hx⟩, Src, P2, it, sr, ex⟩
        · exact ⟨a, rfl, hx, q _ P2 H1 Src it.any sr ex⟩
        · cases r with
          | tup _ _ => exact absurd ⟨_, rfl⟩ ht
          | @lstF a' xs' ds0 q' r' =>
            simp only [seqD] at hd
            split at hd
            · rename_i c
              cases hd
              exact ⟨_, rfl, ⟨_, e1.und.seqL (SqL.of q')⟩, q _ P1 H1 _ it_list.any ⟨q', r'⟩ e1⟩
            · cases hd
          | @lstO a' xs' ds0 A0 q' r' =>
            simp only [seqD] at hd
            split at hd
            · rename_i c
              cases hd
              have r2 := r'.nil_of c
              have o : ∀ b ∈ [a], P1 b = none := fun b hb => by
                have hb : b = a := by simpa using hb
                subst hb
                exact (f.2 b List.mem_cons_self).2
              have g := give_ext (A := [a]) e1.und o
              refine ⟨a, rfl, ⟨_, SqL.of q'⟩, q _ (give P1 H1 [a]) H1 _ it_list.any ⟨by rw [give_in (by simp)]; exact q', r2.mono g.same (by simp)⟩ ⟨e1.same.trans g.same, g.und, e1.keep, e1.lck, fun b w q => ?_⟩⟩
              rcases g.new b w q with z | z | z
              · exact e1.new b w z
              · exact .inr (.inl (e1.free st.und z))
              · have hb : b = a := by simpa using z
                subst hb
                exact .inr (.inl (f.2 b List.mem_cons_self).1)
            · cases hd
          | @scr a' ns q' =>
            simp only [seqD] at hd
            cases hd
            exact ⟨_, rfl, ⟨_, e1.und.seqL q'⟩, q _ P1 H1 _ it_scr.any q' e1⟩
          | _ => simp [seqD] at hd⟩
end
end RL
namespace RL
open PySem PySem.Spec PyProof.Rows L2
section
variable {X : Cx} {W : WX} {e a b : Expr} {pos : Pos} {Sa Sb S : Env → Res D}
theorem i_seqB {tg : Expr} (h : BOk X W e S) : IOk X W true tg e (sSeq S) := ⟨PI.imp (PI.or (pi_list h.pe) (pi_tup h.pe)) fun σ H R ⟨P, ρ, A, st, q⟩ => by
  unfold sSeq at q
  cases hs : S ρ with
  | bad => simp only [hs, Res.bind] at q
  | exc x => exact .inl ⟨P, ρ, A, st, by rw [hs]; simp only [hs, Res.bind] at q; exact q⟩
  | ok d =>
    simp only [hs, Res.bind] at q
    cases hd : seqD d with
    | none => simp only [hd, opt] at q
    | some ds =>
      simp only [hd, opt] at q
      by_cases ht : ∃ es, d = .tup es
      · obtain ⟨es, rfl⟩ := ht
        refine .inr ⟨P, ρ, A, st, ?_⟩
        rw [hs]
        intro v P1 H1 B e1 r f
        cases r with
        | @tup a' xs' ds0 A0 q' r' =>
          simp only [seqD] at hd
          split at hd
          · rename_i c
            cases hd
            exact ⟨_, rfl, ⟨_, e1.und.seqT q'⟩, q _ P1 H1 _ it_tup.any ⟨q', r'.nil_of c⟩ e1⟩
          · cases hd
      · refine .inl ⟨P, ρ, A, st, ?_⟩
        rw [hs]
        intro v P1 H1 B e1 r f
        cases r with
        | tup _ _ => exact absurd ⟨_, rfl⟩ ht
        | @lstF a' xs' ds0 q' r' =>
          simp only [seqD] at hd
          split at hd
          · rename_i c
            cases hd
            exact ⟨_, rfl, ⟨_, e1.und.seqL (SqL.of q')⟩, q _ P1 H1 _ it_list.any ⟨q', r'⟩ e1⟩
          · cases hd
        | @lstO a' xs' ds0 A0 q' r' =>
          simp only [seqD] at hd
          split at hd
          · rename_i c
            cases hd
            exact ⟨_, rfl, ⟨_, SqL.of q'⟩, q _ P1 H1 _ it_listB ⟨q', f _ List.mem_cons_self, r'.nil_of c⟩ e1⟩
          · cases hd
        | @scr a' ns q' =>
          simp only [seqD] at hd
          cases hd
          exact ⟨_, rfl, ⟨_, e1.und.seqL q'⟩, q _ P1 H1 _ it_scr.any q' e1⟩
        | _ => simp [seqD] at hd⟩
def ups (lo : Int) (n : Nat) : List D := (List.range n).map fun (k : Nat) => D.int (lo + (k : Int))
theorem ups_len (lo : Int) (n : Nat) : (ups lo n).length = n := by simp [ups]
theorem it_rng {G : Gd} {lo : Int} {n : Nat} : ItOk G false (Itr lo n) (ups lo n) fun _ _ => True where
  stay := fun _ _ _ _ _ _ _ _ _ => trivial
  go := fun i P H u _ hi => by
    rw [ups_len] at hi
    refine ⟨hi, fun x H' hy => ?_⟩
    obtain ⟨e, y⟩ := hy
    subst e y
    exact ⟨P, .int (lo + i), Ext.refl u, by simp [ups, hi], .int _⟩
  stop := fun i P H u _ hi => by rw [ups_len] at hi; exact hi
def inR (i : Int) : Bool := decide (-(2 ^ 62) ≤ i) && decide (i < 2 ^ 62)
def rng1 : List D → Option (List D)
  | [.int j] => if inR j = true then some (ups 0 j.toNat) else none
  | _ => none
def sI (f : List D → Option (List D)) (S : Env → Res (List D)) : Env → Res (List D) := fun ρ => (S ρ).bind fun ds => opt (f ds)
theorem i_rng1 {bor : Bool} {tg : Expr} {p : Pos} {T : Env → Res (List D)} (hm : X.mg "range" = none) (ha : ABOk X W [a] T) (hg : Gl X "range" := by rfl) (hs : starEach [a] X.env = [(false, eval a X.env)] := by rfl) : IOk X W bor tg (.Call (.Name "range" p) [a] [] pos) (sI rng1 T) :=
  ⟨PI.imp (pi_range1 hg hm ha.pa hs) fun σ H R ⟨P, ρ, A, st, h⟩ => ⟨P, ρ, A, st, by
    unfold sI at h
    cases ht : T ρ with
    | bad => simp only [ht, Res.bind] at h
    | exc x => simp only [ht, Res.bind] at h; exact h
    | ok ds =>
      simp only [ht, Res.bind] at h
      intro vs P1 H1 B e1 r o
      cases r with
      | nil => simp [rng1, opt] at h
      | cons r1 r2 =>
        cases r2 with
        | cons _ _ => simp [rng1, opt] at h
        | nil =>
          cases r1 with
          | int j =>
            simp only [rng1] at h
            by_cases c : inR j = true
            · rw [if_pos c] at h
              simp only [inR, Bool.and_eq_true, decide_eq_true_eq] at c
              exact ⟨j, rfl, c.1, c.2, h _ P1 H1 _ it_rng.any trivial e1⟩
            · rw [if_neg c] at h; exact h.elim
          | _ => simp [rng1, opt] at h⟩⟩
def lstD : D → Option (List D)
  | .lst _ ds => if cleanL ds = true then some ds else none
  | .scr ns => some (ns.map .int)
  | _ => none
def pairsI : Nat → List D → List D
  | _, [] => []
  | i, d :: ds => .tup [.int (i : Int), d] :: pairsI (i + 1) ds
theorem pairsI_get : ∀ {ds : List D} {k i : Nat} {d : D}, ds[i]? = some d → (pairsI k ds)[i]? = some (.tup [.int ((k + i : Nat) : Int), d])
  | [], _, _, _, h => by simp at h
  | e :: ds, k, 0, d, h => by simp at h; subst h; simp [pairsI]
  | e :: ds, k, i + 1, d, h => by
    have := pairsI_get (ds := ds) (k := k + 1) (i := i) (d := d) (by simpa using h)
    simp only [pairsI, List.getElem?_cons_succ]
    rw [this]
    congr 4
    omega
theorem pairsI_len : ∀ {ds : List D} {k : Nat}, (pairsI k ds).length = ds.length
  | [], _ => rfl
  | _ :: ds, k => by simp [pairsI, pairsI_len (ds := ds)]
def StayL (G : Gd) (P H : Hp) (a : Addr) (xs : List V) (ds : List D) : Prop := SqL G.K P a xs ∧ RelL G P H xs ds []
theorem it_enum {G : Gd} {a : Addr} {xs : List V} {ds : List D} : ItOk G false (Ite G.K a) (pairsI 0 ds) fun P H => StayL G P H a xs ds where
  stay := fun P H P' H' A _ _ e ⟨h, r⟩ => ⟨Same.seq e.same h, r.mono e.same (by simp)⟩
  go := fun i P H u ⟨h, r⟩ hi => by
    rw [pairsI_len] at hi
    obtain ⟨v, d, h1, h2, h3⟩ := r.at? hi
    refine ⟨⟨xs, v, u.seqL h, h1⟩, fun x H' hy => ?_⟩
    obtain ⟨T, w, e1, e2, e3, y⟩ := hy
    subst e1 e3
    have q := y _ (u.seqL h)
    rw [h1] at q
    cases q
    have ex := ext_fix (o := .tup [.int (i : Nat), v]) u e2
    refine ⟨_, _, ex, pairsI_get h2, .tup (SqT.of upd_same) (.cons (A := []) (B := []) ?_ (.cons (A := []) (B := []) (h3.mono ex.same (by simp)) .nil))⟩
    rw [Nat.zero_add]
    exact .int _
  stop := fun i P H u ⟨h, r⟩ hi => ⟨xs, u.seqL h, by rw [r.length, ← pairsI_len (k := 0)]; exact hi⟩
theorem list_src {G : Gd} {P H P1 H1 : Hp} {B : List Addr} {d : D} {v : V} {ds : List D} (un : Under P H) (e : Ext P H P1 H1 []) (r : Rel G P1 H1 v d B) (f : Fresh P1 H B) (h : lstD d = some ds) :
    ∃ a xs P2, v = .ref a ∧ StayL G P2 H1 a xs ds ∧ Ext P H P2 H1 [] ∧ Same P1 P2 ∧ ∀ b w, P2 b = some w → P1 b = some w ∨ b ∈ B := by
  cases r with
  | @lstF a xs ds0 q r =>
    simp only [lstD] at h
    split at h
    · cases h
      exact ⟨a, xs, P1, rfl, ⟨SqL.of q, r⟩, e, Same.refl _, fun b w q => .inl q⟩
    · cases h
  | @lstO a xs ds0 A0 q r =>
    simp only [lstD] at h
    split at h
    · rename_i c
      cases h
      have r' := r.nil_of c
      have o : ∀ b ∈ [a], P1 b = none := fun b hb => by
        have hb : b = a := by simpa using hb
        subst hb
        exact (f.2 b List.mem_cons_self).2
      have g := give_ext (A := [a]) e.und o
      refine ⟨a, xs, give P1 H1 [a], rfl, ⟨SqL.of (by rw [give_in (by simp)]; exact q), r'.mono g.same (by simp)⟩, ⟨e.same.trans g.same, g.und, e.keep, e.lck, fun b w q => ?_⟩, g.same, fun b w q => ?_⟩
      · rcases g.new b w q with z | z | z
        · exact e.new b w z
        · exact .inr (.inl (e.free un z))
        · have hb : b = a := by simpa using z
          subst hb
          exact .inr (.inl (f.2 b List.mem_cons_self).1)
      · by_cases hb : b = a
        · subst hb; exact .inr List.mem_cons_self
        · rw [give_out (by simpa using hb)] at q; exact .inl q
    · cases h
  | @scr a ns q =>
    simp only [lstD] at h
    cases h
    exact ⟨a, _, P1, rfl, ⟨q, ints_rel ns⟩, e, Same.refl _, fun b w q => .inl q⟩
  | _ => simp [lstD, opt] at h
def enum1 : List D → Option (List D)
  | [d] => (lstD d).map (pairsI 0)
  | _ => none
theorem i_enum {bor : Bool} {p tpos : Pos} {elts : List Expr} {kk : Nat} {T : Env → Res (List D)} (hm : X.mg "enumerate" = none) (ha : AOk X W [e] T) (hg : Gl X "enumerate" := by rfl) (hs : starEach [e] X.env = [(false, eval e X.env)] := by rfl) :
    IOk X W bor (.Tuple elts kk tpos) (.Call (.Name "enumerate" p) [e] [] pos) (sI enum1 T) :=
  ⟨PI.imp (pi_enum hg hm ha.pa hs) fun σ H R ⟨P, ρ, A, st, h⟩ => ⟨P, ρ, A, st, by
    unfold sI at h
    cases ht : T ρ with
    | bad => simp only [ht, Res.bind] at h
    | exc x => simp only [ht, Res.bind] at h; exact h
    | ok ds =>
      simp only [ht, Res.bind] at h
      intro vs P1 H1 B e1 r f
      cases r with
      | nil => simp [enum1, opt] at h
      | @cons v d A1 vs ds B1 r1 r2 =>
        cases r2 with
        | cons _ _ => simp [enum1, opt] at h
        | nil =>
          simp only [enum1] at h
          cases hl : lstD d with
          | none => simp only [hl, Option.map, opt] at h
          | some es =>
            simp only [hl, Option.map, opt] at h
            rw [List.append_nil] at f
            obtain ⟨a, xs, P2, rfl, sl, ex, _, _⟩ := list_src st.und e1 r1 f hl
            exact ⟨a, xs, rfl, ex.und.seqL sl.1, h _ P2 H1 _ it_enum.any sl ex⟩⟩⟩
end
end RL
namespace RL
open PySem PySem.Spec PyProof.Rows L2
def lcRun (f : D → Res (Option D)) : List D → Option (List D)
  | [] => some []
  | d :: ds => match f d with
    | .ok none => lcRun f ds
    | .ok (some e) => (lcRun f ds).map (e :: ·)
    | _ => none
def wipeE (ρ : Env) : List Nat → Env
  | [] => ρ
  | v :: vs => (wipeE ρ vs).set v none
def lcOne (t : Tg) (vs : List Nat) (T : Env → Res Bool) (E : Env → Res D) (ρ : Env) (d : D) : Res (Option D) := match t.set d (wipeE ρ vs) with
  | none => .bad
  | some ρ' => (T ρ').bind fun b => if b = true then (E ρ').bind fun e => .ok (some e) else .ok none
def sLc (Si : Env → Res (List D)) (t : Tg) (vs : List Nat) (T : Env → Res Bool) (E : Env → Res D) : Env → Res D := fun ρ => (Si ρ).bind fun ds => if ds.length ≤ sizeLine then (match lcRun (lcOne t vs T E ρ) ds with
  | some es => .ok (.lst true es)
  | none => .bad) else .bad
abbrev WF : WX := fun _ _ _ _ => False
theorem wipe_none {σ : Sl} {j : Nat} : ∀ {vs : List Nat}, j ∈ vs → j < σ.length → (wipe σ vs)[j]? = some none
  | [], h, _ => by simp at h
  | v :: vs, h, hl => by
    unfold wipe
    by_cases e : v = j
    · subst e
      rw [List.getElem?_set_self (by rw [wipe_length]; exact hl)]
    · rw [List.getElem?_set_ne e]
      exact wipe_none ((List.mem_cons.mp h).resolve_left fun z => e z.symm) hl
theorem wipe_eq {σ σ' : Sl} {vs : List Nat} (hl : σ'.length = σ.length) (h : ∀ j, j ∉ vs → σ'[j]? = σ[j]?) : wipe σ' vs = wipe σ vs := by
  apply List.ext_getElem?
  intro j
  by_cases hj : j ∈ vs
  · by_cases hx : j < σ.length
    · rw [wipe_none hj hx, wipe_none hj (by omega)]
    · rw [List.getElem?_eq_none (by rw [wipe_length]; omega), List.getElem?_eq_none (by rw [wipe_length]; omega)]
  · rw [wipe_out hj, wipe_out hj, h j hj]
section
variable {G : Gd} {P P' H H' : Hp}
theorem EnvRel.wipe {σ : Sl} {ρ : Env} {A : List Addr} (r : EnvRel G P H σ ρ A) : ∀ vs : List Nat, ∃ C, (∀ b ∈ C, b ∈ A) ∧ (A.Nodup → C.Nodup) ∧ EnvRel G P H (wipe σ vs) (wipeE ρ vs) C
  | [] => ⟨A, fun _ h => h, fun h => h, r⟩
  | v :: vs => by
    obtain ⟨C, c1, c2, c3⟩ := EnvRel.wipe r vs
    by_cases hv : v < (wipeE ρ vs).length
    · obtain ⟨B, C', p, q, _⟩ := c3.out hv
      refine ⟨C', fun b hb => c1 b (p.symm.subset (List.mem_append_right _ hb)), fun n => ((p.nodup_iff.mp (c2 n)).sublist (List.sublist_append_right _ _)), ?_⟩
      show EnvRel G P H ((L2.wipe σ vs).set v none) ((wipeE ρ vs).set v none) C'
      exact q.anyAt (by simp [hv])
    · refine ⟨C, c1, c2, ?_⟩
      show EnvRel G P H ((L2.wipe σ vs).set v none) ((wipeE ρ vs).set v none) C
      have hl := c3.length
      rw [List.set_eq_of_length_le (by omega), List.set_eq_of_length_le (by omega)]
      exact c3
theorem StRel.wipe {σ : Sl} {ρ : Env} {A : List Addr} (st : StRel G P H σ ρ A) (vs : List Nat) : ∃ C, StRel G P H (L2.wipe σ vs) (wipeE ρ vs) C := by
  obtain ⟨C, c1, c2, c3⟩ := st.env.wipe vs
  exact ⟨C, st.und, c3, c2 st.nd, fun b hb => st.off b (c1 b hb), st.mks⟩
theorem RelL.snoc {v : V} {d : D} {B : List Addr} (r : Rel G P H v d B) : ∀ {xs : List V} {ds : List D} {A : List Addr}, RelL G P H xs ds A → RelL G P H (xs ++ [v]) (ds ++ [d]) (A ++ B)
  | _, _, _, .nil => by
    have q : RelL G P H [v] [d] (B ++ []) := .cons r .nil
    rw [List.append_nil] at q
    exact q
  | _, _, _, .cons (A := A1) (B := B1) r1 t => by
    rw [List.append_assoc]
    exact .cons r1 (RelL.snoc r t)
theorem Ext.updNew {a : Addr} {o : HO} (e : Ext P H P' H' []) (h : H a = none) (h' : P' a = none) : Ext P H P' (upd H' a o) [] where
  same := e.same
  und := fun b w q => by
    have hb : b ≠ a := fun z => by subst z; rw [h'] at q; cases q
    rw [upd_ne hb]; exact e.und b w q
  keep := fun b w q n m => by rw [upd_ne (ne_of_none q h)]; exact e.keep b w q n m
  lck := fun b o u q => by rw [upd_ne (ne_of_none q h)]; exact e.lck b o u q
  new := e.new
end
section
variable {X : Cx} {W : WX}
theorem lc_imp {bor : Bool} {Si : Env → Res (List D)} {t : Tg} {vs : List Nat} {T : Env → Res Bool} {E : Env → Res D} (ht : ∀ i ∈ t.slots, i ∈ vs) {σ : Sl} {H : Hp} {Q : VK} (h : tE (gd X) W (sLc Si t vs T E) σ H Q) :
    tLc (tI (gd X) W bor Si) (tG (gd X) t) (tT (gd X) WF T) (tE (gd X) WF E) vs σ H Q := by
  obtain ⟨P, ρ, A, st, h⟩ := h
  refine ⟨P, ρ, A, st, ?_⟩
  unfold sLc at h
  cases hs : Si ρ with
  | bad => simp only [hs, Res.bind] at h
  | exc x => simp only [hs, Res.bind] at h; exact h
  | ok ds =>
    simp only [hs, Res.bind] at h
    by_cases hz : ds.length ≤ sizeLine
    · rw [if_pos hz] at h
      cases hr : lcRun (lcOne t vs T E ρ) ds with
      | none => rw [hr] at h; exact h.elim
      | some es =>
        rw [hr] at h
        intro J P1 H1 Src it sr e1 Dn hD
        have hP1 : P1 Dn = none := e1.und.free hD
        let Iv : Nat → Hp → Prop := fun i Hc => i ≤ ds.length ∧ ∃ Pc acc xs rest B, Ext P1 H1 Pc Hc [] ∧ Pc Dn = none ∧ Hc Dn = some (.lst xs) ∧ RelL (gd X) Pc Hc xs acc B ∧ lcRun (lcOne t vs T E ρ) (ds.drop i) = some rest ∧ acc ++ rest = es ∧ xs.length ≤ i ∧ Dn ∉ B ∧ B.Nodup ∧ ∀ b ∈ B, H1 b = none ∧ Pc b = none
        refine ⟨fun i m Hc => m = ds.length - i ∧ Iv i Hc, ⟨ds.length, by simp, Nat.zero_le _, P1, [], [], es, [], ext_own e1.und hD, hP1, upd_same, .nil, by simpa using hr, rfl, Nat.le_refl _, by simp, List.nodup_nil, fun b hb => by simp at hb⟩, ?_⟩
        rintro i m Hc ⟨rfl, hi, Pc, acc, xs, rest, B, ec, pD, hc, rl, hrest, hacc, hxl, nD, ndB, fB⟩
        have sc : Src Pc Hc := it.stay P1 H1 Pc Hc [] (fun _ => rfl) e1.und ec sr
        by_cases hlt : i < ds.length
        · right
          obtain ⟨hgo, hy⟩ := it.go i Pc Hc ec.und sc hlt
          refine ⟨hgo, Iv (i + 1), fun H' q => ⟨ds.length - (i + 1), by omega, rfl, q⟩, fun x H' y => ?_⟩
          obtain ⟨P2, d, e2, hd, rd⟩ := hy x H' y
          have hdrop : ds.drop i = d :: ds.drop (i + 1) := by
            rw [List.drop_eq_getElem_cons hlt]
            congr 1
            rw [List.getElem?_eq_getElem hlt] at hd
            exact Option.some.inj hd
          rw [hdrop] at hrest
          simp only [lcRun] at hrest
          have e12 := ec.trans e1.und e2
          obtain ⟨C, sw⟩ := (st.ext (e1.trans st.und e12)).wipe vs
          have offD : ∀ b ∈ (Dn :: B), ∃ o, Hc b = some o := fun b hb => by
            rcases List.mem_cons.mp hb with rfl | hb
            · exact ⟨_, hc⟩
            · exact rl.at b hb
          have offP : ∀ b ∈ (Dn :: B), Pc b = none := fun b hb => by
            rcases List.mem_cons.mp hb with rfl | hb
            · exact pD
            · exact (fB b hb).2
          have keep : ∀ {P3 H3 : Hp}, Ext Pc Hc P3 H3 [] → P3 Dn = none ∧ H3 Dn = some (.lst xs) ∧ RelL (gd X) P3 H3 xs acc B ∧ ∀ b ∈ B, H1 b = none ∧ P3 b = none := fun {P3 H3} e => by
            obtain ⟨k1, k2⟩ := e.own offD offP
            refine ⟨k2 _ List.mem_cons_self, by rw [k1 _ List.mem_cons_self]; exact hc, rl.mono e.same fun b hb => k1 b (List.mem_cons_of_mem _ hb), fun b hb => ⟨(fB b hb).1, k2 b (List.mem_cons_of_mem _ hb)⟩⟩
          cases hset : t.set d (wipeE ρ vs) with
          | none =>
            have : lcOne t vs T E ρ d = .bad := by simp only [lcOne, hset]
            rw [this] at hrest
            cases hrest
          | some ρ' =>
            have hone : lcOne t vs T E ρ d = (T ρ').bind fun b => if b = true then (E ρ').bind fun e => .ok (some e) else .ok none := by simp only [lcOne, hset]
            rw [hone] at hrest
            refine ⟨P2, wipeE ρ vs, C, d, [], sw, rd, by simpa using sw.nd, fun b hb => by simp at hb, ?_⟩
            rw [hset]
            intro σ' A' st' sub hlen hfr
            refine ⟨wipe_eq (by rw [hlen, wipe_length]) (fun j hj => by rw [hfr j fun z => hj (ht j z), wipe_out hj]), P2, ρ', A', st', ?_⟩
            cases hT : T ρ' with
            | bad => simp only [hT, Res.bind] at hrest; cases hrest
            | exc x => simp only [hT, Res.bind] at hrest; cases hrest
            | ok k =>
              intro P3 H3 e3
              cases k with
              | false =>
                simp only [hT, Res.bind, Bool.false_eq_true, if_false] at hrest ⊢
                have e13 := e2.trans ec.und e3
                obtain ⟨k1, k2, k3, k4⟩ := keep e13
                exact ⟨hlt, P3, acc, xs, rest, B, ec.trans e1.und e13, k1, k2, k3, hrest, hacc, by omega, nD, ndB, k4⟩
              | true =>
                simp only [hT, Res.bind, if_true] at hrest ⊢
                refine ⟨P3, ρ', A', st'.ext e3, ?_⟩
                cases hE : E ρ' with
                | bad => simp only [hE] at hrest; cases hrest
                | exc x => simp only [hE] at hrest; cases hrest
                | ok y0 =>
                  simp only [hE] at hrest
                  obtain ⟨rest', hr', rfl⟩ : ∃ r, lcRun (lcOne t vs T E ρ) (ds.drop (i + 1)) = some r ∧ rest = y0 :: r := by
                    cases hq : lcRun (lcOne t vs T E ρ) (ds.drop (i + 1)) with
                    | none => rw [hq] at hrest; cases hrest
                    | some r => rw [hq] at hrest; exact ⟨r, rfl, (Option.some.inj hrest).symm⟩
                  intro v P4 H4 B4 e4 r4 f4
                  have e13 := e2.trans ec.und e3
                  have e14 := e13.trans ec.und e4
                  obtain ⟨j1, j2, j3, j4⟩ := keep e13
                  obtain ⟨k1, k2, k3, k4⟩ := keep e14
                  have e1c := ec.trans e1.und e14
                  have dB4 : ∀ b ∈ B4, b ≠ Dn ∧ b ∉ B := fun b hb => by
                    have hn := (f4.2 b hb).1
                    refine ⟨fun z => ?_, fun z => ?_⟩
                    · subst z; rw [j2] at hn; cases hn
                    · obtain ⟨o, ho⟩ := j3.at b z
                      rw [ho] at hn; cases hn
                  refine ⟨xs, k2, by omega, hlt, P4, acc ++ [y0], xs ++ [v], rest', B ++ B4, e1c.updNew hD k1, k1, upd_same, ?_, hr', by rw [← hacc]; simp, by simp; omega, ?_, ?_, ?_⟩
                  · refine (k3.snoc r4).mono (Same.refl _) fun b hb => upd_ne ?_
                    rcases List.mem_append.mp hb with z | z
                    · exact fun w => nD (w ▸ z)
                    · exact (dB4 b z).1
                  · intro z
                    rcases List.mem_append.mp z with z | z
                    · exact nD z
                    · exact (dB4 _ z).1 rfl
                  · exact List.nodup_append.mpr ⟨ndB, f4.1, fun a ha b hb z => (dB4 b hb).2 (z ▸ ha)⟩
                  · intro b hb
                    rcases List.mem_append.mp hb with z | z
                    · exact k4 b z
                    · exact ⟨(ec.trans e1.und e13).free e1.und (f4.2 b z).1, (f4.2 b z).2⟩
        · left
          have e : i = ds.length := by omega
          subst e
          refine ⟨it.stop _ Pc Hc ec.und sc (Nat.le_refl _), ?_⟩
          rw [List.drop_length] at hrest
          have e0 : rest = [] := (Option.some.inj hrest).symm
          subst e0
          rw [List.append_nil] at hacc
          subst hacc
          refine h _ Pc Hc (Dn :: B) (e1.trans st.und ec) (.lstO hc rl) ⟨List.nodup_cons.mpr ⟨nD, ndB⟩, fun b hb => ?_⟩
          rcases List.mem_cons.mp hb with rfl | hb
          · exact ⟨e1.free st.und hD, pD⟩
          · exact ⟨e1.free st.und (fB b hb).1, (fB b hb).2⟩
    · rw [if_neg hz] at h; exact h.elim
structure TsOk (X : Cx) (W : WX) (ifs : List Expr) (T : Env → Res Bool) : Prop where pts : PTs X ifs (tT (gd X) W T)
theorem PTs.imp {X : Cx} {e : List Expr} {t t' : TT} (h : PTs X e t) (f : ∀ σ H Q, t' σ H Q → t σ H Q) : PTs X e t' := ⟨fun pins s σ H Q I q => h.run pins s σ H Q I (f σ H Q q)⟩
def sYes : Env → Res Bool := fun _ => .ok true
theorem ts_nil : TsOk X W [] sYes := ⟨PTs.imp pts_nil fun σ H Q ⟨P, ρ, A, st, h⟩ => h P H (Ext.refl st.und)⟩
theorem ts_one {c : Expr} {T : Env → Res Bool} (h : TOk X W c T) : TsOk X W [c] T := ⟨pts_one h.pt⟩
variable {bor : Bool} {elt tg iter : Expr} {ifs : List Expr} {scope : Scope} {own : List (Str × Nat)} {pos : Pos} {Si : Env → Res (List D)} {t : Tg} {T : Env → Res Bool} {E : Env → Res D}
theorem e_lc (hc : X.calm = true) (hN : X.N.Nodup) (hi : IOk X W bor tg iter Si) (ok : BlkOk X.N X.env.scope scope own) (ht : ∀ i ∈ t.slots, i ∈ own.map (·.2))
    (hg : ∀ (s : Shared) (H : Hp) (C : Addr) (cl : List (Str × Addr)) (fp : List Addr), GOk (X.blk s H scope (compEnvC scope cl C X.env) fp) tg t) (hT : ∀ (s : Shared) (H : Hp) (C : Addr) (cl : List (Str × Addr)) (fp : List Addr), TsOk (X.blk s H scope (compEnvC scope cl C X.env) fp) WF ifs T)
    (he : ∀ (s : Shared) (H : Hp) (C : Addr) (cl : List (Str × Addr)) (fp : List Addr), EOk (X.blk s H scope (compEnvC scope cl C X.env) fp) WF elt E) (hs : ∀ x, foldedSetIterable iter X.env x = pure x := by intro _; rfl) :
    EOk X W (.ListComp elt [⟨tg, iter, ifs, 0⟩] scope pos) (sLc Si t (own.map (·.2)) T E) :=
  ⟨PE.imp (pe_lc hc hN hi.pi ok (fun s H C cl fp => (hg s H C cl fp).pg) (fun s H C cl fp => (hT s H C cl fp).pts) (fun s H C cl fp => (he s H C cl fp).pe) hs) fun _ _ _ h => lc_imp (bor := bor) ht h⟩
end
end RL
namespace RL
open PySem PySem.Spec PyProof.Rows L2
inductive SRes where
  | nx (ρ : Env) | rt (d : D) (ρ : Env) | bk (ρ : Env) | exc (x : D) (ρ : Env) | bad
structure After (G : Gd) (P H : Hp) (σ : Sl) (A : List Addr) (L : List Nat) (P' H' : Hp) (σ' : Sl) (ρ' : Env) (A' : List Addr) : Prop where
  ext : Ext P H P' H' A
  st : StRel G P' H' σ' ρ' A'
  sub : ∀ b ∈ A', H b = none ∨ b ∈ A
  len : σ'.length = σ.length
  pin : ∀ j ∈ L, σ'[j]? = σ[j]?
def tS (G : Gd) (W : WX) (L : List Nat) (S : Env → SRes) : TS := fun D σ H => ∃ P ρ A, StRel G P H σ ρ A ∧ match S ρ with
  | .nx ρ' => ∀ σ' P' H' A', After G P H σ A L P' H' σ' ρ' A' → D.nx σ' H'
  | .rt d ρ' => ∀ v σ' P' H' A' B, After G P H σ A L P' H' σ' ρ' A' → Rel G P' H' v d B → (B ++ A').Nodup → (∀ b ∈ B, P' b = none ∧ (H b = none ∨ b ∈ A)) → D.rt v H'
  | .bk ρ' => ∀ σ' P' H' A', After G P H σ A L P' H' σ' ρ' A' → D.bk σ' H'
  | .exc x ρ' => ∀ cls dx σ' P' H' A', After G P H σ A L P' H' σ' ρ' A' → XRel G P' cls dx x → W cls dx σ' H'
  | .bad => False
structure SOk (X : Cx) (W : WX) (L : List Nat) (s : Stmt) (S : Env → SRes) : Prop where ps : PS X s (tS (gd X) W L S)
structure SsOk (X : Cx) (W : WX) (L : List Nat) (s : List Stmt) (S : Env → SRes) : Prop where pss : PSs X s (tS (gd X) W L S)
section
variable {G : Gd} {P H P1 H1 P2 H2 : Hp} {A A1 A2 : List Addr} {σ σ1 σ2 : Sl} {ρ1 ρ2 : Env} {L : List Nat}
theorem Ext.gone (e : Ext P H P1 H1 A) (u : Under P H) {b : Addr} (h : H1 b = none) : H b = none ∨ b ∈ A := by
  by_cases hA : b ∈ A
  · exact .inr hA
  · cases q : H b with
    | none => exact .inl rfl
    | some o =>
      cases qp : P b with
      | none => rw [e.keep b o q qp hA] at h; cases h
      | some w =>
        rcases e.und _ _ (e.same _ _ qp) with z | ⟨_, _, _, z⟩ | ⟨_, _, _, z, _⟩
        · rw [h] at z; cases z
        · rw [h] at z; cases z
        · rw [h] at z; cases z
theorem Ext.transA (u : Under P H) (a : Ext P H P1 H1 A) (b : Ext P1 H1 P2 H2 A1) (s : ∀ b ∈ A1, H b = none ∨ b ∈ A) : Ext P H P2 H2 A where
  same := a.same.trans b.same
  und := b.und
  lck := fun c o u h => b.lck c o u (a.lck c o u h)
  keep := fun c o h n hc => by
    refine b.keep c o (a.keep c o h n hc) ?_ fun z => ?_
    · cases q : P1 c with
      | none => rfl
      | some w =>
        rcases a.new c w q with z | z | z
        · rw [n] at z; cases z
        · rw [h] at z; cases z
        · exact absurd z hc
    · rcases s c z with z | z
      · rw [h] at z; cases z
      · exact hc z
  new := fun c o h => by
    rcases b.new c o h with z | z | z
    · exact a.new c o z
    · rcases a.gone u z with z | z
      · exact .inr (.inl z)
      · exact .inr (.inr z)
    · rcases s c z with z | z
      · exact .inr (.inl z)
      · exact .inr (.inr z)
theorem Ext.more (e : Ext P H P1 H1 []) : Ext P H P1 H1 A := ⟨e.same, e.und, fun b o h n _ => e.keep b o h n (by simp), e.lck, fun b o h => by
  rcases e.new b o h with z | z | z
  · exact .inl z
  · exact .inr (.inl z)
  · simp at z⟩
theorem After.refl {ρ : Env} (st : StRel G P H σ ρ A) : After G P H σ A L P H σ ρ A := ⟨Ext.refl st.und, st, fun b h => .inr h, rfl, fun _ _ => rfl⟩
theorem After.pure {ρ : Env} (st : StRel G P H σ ρ A) (e : Ext P H P1 H1 []) : After G P H σ A L P1 H1 σ ρ A := ⟨e.more, st.ext e, fun b h => .inr h, rfl, fun _ _ => rfl⟩
theorem After.trans (u : Under P H) (a : After G P H σ A L P1 H1 σ1 ρ1 A1) (b : After G P1 H1 σ1 A1 L P2 H2 σ2 ρ2 A2) : After G P H σ A L P2 H2 σ2 ρ2 A2 where
  ext := a.ext.transA u b.ext a.sub
  st := b.st
  sub := fun c hc => by
    rcases b.sub c hc with z | z
    · exact a.ext.gone u z
    · exact a.sub c z
  len := b.len.trans a.len
  pin := fun j hj => (b.pin j hj).trans (a.pin j hj)
theorem After.newB (u : Under P H) (a : After G P H σ A L P1 H1 σ1 ρ1 A1) {B : List Addr} (f : ∀ b ∈ B, P2 b = none ∧ (H1 b = none ∨ b ∈ A1)) : ∀ b ∈ B, P2 b = none ∧ (H b = none ∨ b ∈ A) := fun b hb => ⟨(f b hb).1, by
  rcases (f b hb).2 with z | z
  · exact a.ext.gone u z
  · exact a.sub b z⟩
theorem tS_from {W : WX} {D : Ends} {S : Env → SRes} {ρ : Env} (u : Under P H) (a : After G P H σ A L P1 H1 σ1 ρ1 A1) (r : SRes) (hr : match r with
      | .nx ρ' => ∀ σ' P' H' A', After G P H σ A L P' H' σ' ρ' A' → D.nx σ' H'
      | .rt d ρ' => ∀ v σ' P' H' A' B, After G P H σ A L P' H' σ' ρ' A' → Rel G P' H' v d B → (B ++ A').Nodup → (∀ b ∈ B, P' b = none ∧ (H b = none ∨ b ∈ A)) → D.rt v H'
      | .bk ρ' => ∀ σ' P' H' A', After G P H σ A L P' H' σ' ρ' A' → D.bk σ' H'
      | .exc x ρ' => ∀ cls dx σ' P' H' A', After G P H σ A L P' H' σ' ρ' A' → XRel G P' cls dx x → W cls dx σ' H'
      | .bad => False) (hs : S ρ1 = r) : tS G W L S D σ1 H1 := by
  refine ⟨P1, ρ1, A1, a.st, ?_⟩
  rw [hs]
  cases r with
  | nx ρ' => exact fun σ' P' H' A' b => hr _ _ _ _ (a.trans u b)
  | rt d ρ' => exact fun v σ' P' H' A' B b q1 q2 q3 => hr v _ _ _ _ B (a.trans u b) q1 q2 (a.newB u q3)
  | bk ρ' => exact fun σ' P' H' A' b => hr _ _ _ _ (a.trans u b)
  | exc x ρ' => exact fun cls dx σ' P' H' A' b q => hr cls dx _ _ _ _ (a.trans u b) q
  | bad => exact hr
theorem PostX.stmt {W : WX} {x : D} {ρ : Env} (st : StRel G P H σ ρ A) (h : ∀ cls dx σ' P' H' A', After G P H σ A L P' H' σ' ρ A' → XRel G P' cls dx x → W cls dx σ' H') : PostX G P H W σ x := fun cls dx P' H' e r => h cls dx σ P' H' A (.pure st e) r
end
section
variable {X : Cx} {W : WX} {L : List Nat} {pos : Pos} {e c : Expr} {st : Stmt} {rest : List Stmt} {S T : Env → SRes}
def sNext : Env → SRes := fun ρ => .nx ρ
def sThen (S T : Env → SRes) : Env → SRes := fun ρ => match S ρ with
  | .nx ρ' => T ρ'
  | r => r
theorem ss_nil : SsOk X W L [] sNext := ⟨PSs.imp pss_nil fun D σ H ⟨P, ρ, A, st, h⟩ => h σ P H A (.refl st)⟩
theorem ss_cons (h1 : SOk X W L st S) (h2 : SsOk X W L rest T) : SsOk X W L (st :: rest) (sThen S T) := ⟨PSs.imp (pss_cons h1.ps h2.pss) fun D σ H ⟨P, ρ, A, st, h⟩ => ⟨P, ρ, A, st, by
  unfold sThen at h
  cases hs : S ρ with
  | nx ρ1 =>
    simp only [hs] at h
    intro σ1 P1 H1 A1 a
    exact tS_from (ρ := ρ) st.und a (T ρ1) h rfl
  | rt d ρ1 => simp only [hs] at h; exact h
  | bk ρ1 => simp only [hs] at h; exact h
  | exc x ρ1 => simp only [hs] at h; exact h
  | bad => simp only [hs] at h⟩⟩
theorem ss_one (h1 : SOk X W L st S) : SsOk X W L [st] S := ⟨pss_one h1.ps⟩
def sFrz (i : Nat) (S : Env → SRes) : Env → SRes := fun ρ => match ρ[i]? with
  | some (some d) => S (ρ.set i (some d.frz))
  | _ => .bad
theorem StRel.frz {G : Gd} {P H : Hp} {σ : Sl} {ρ : Env} {A : List Addr} {i : Nat} {d : D} (st : StRel G P H σ ρ A) (h : ρ[i]? = some (some d)) : ∃ P' A', After G P H σ A L P' H σ (ρ.set i (some d.frz)) A' := by
  have hi : i < ρ.length := (List.getElem?_eq_some_iff.mp h).1
  obtain ⟨B, C, p, q, hv⟩ := st.env.out hi
  rcases hv with ⟨d', v, h1, h2, r⟩ | ⟨h1, _⟩
  · rw [h] at h1
    cases h1
    have bA : ∀ b ∈ B, b ∈ A := fun b hb => p.symm.subset (List.mem_append_left _ hb)
    have cA : ∀ b ∈ C, b ∈ A := fun b hb => p.symm.subset (List.mem_append_right _ hb)
    have g := give_ext (A := B) st.und fun b hb => st.off b (bA b hb)
    obtain ⟨n1, n2, n3⟩ := List.nodup_append.mp (p.nodup_iff.mp st.nd)
    have rf : Rel G (give P H B) H v d.frz [] := r.frz g.same fun b hb => give_in hb
    have qc : EnvRel G (give P H B) H σ (ρ.set i none) C := q.mono g.same fun _ _ => rfl
    obtain ⟨A', p', q'⟩ := qc.put (i := i) rf (by simpa using hi) (by simp [hi])
    rw [List.set_set, EnvRel.set_same h2] at q'
    refine ⟨give P H B, A', ⟨g.same, g.und, fun b o x1 x2 _ => x1, fun _ _ _ x1 => x1, fun b o x => (g.new b o x).elim .inl fun z => z.elim (fun z => .inr (.inl z)) fun z => .inr (.inr (bA b z))⟩, ⟨g.und, q', p'.symm.nodup_iff.mp (by simpa using n2), fun b hb => ?_, st.mks.mono g.same⟩, fun b hb => ?_, rfl, fun _ _ => rfl⟩
    · have hb : b ∈ C := by simpa using p'.subset hb
      rw [give_out fun z => n3 b z b hb rfl]
      exact st.off b (cA b hb)
    · exact .inr (cA b (by simpa using p'.subset hb))
  · rw [h] at h1; cases h1
def sAsg (t : Tg) (f : Bool) (S : Env → Res D) : Env → SRes := fun ρ => match S ρ with
  | .ok d => match t.set (if f then d.frz else d) ρ with
    | some ρ' => .nx ρ'
    | none => .bad
  | .exc x => .exc x ρ
  | .bad => .bad
theorem asg_imp {t : Tg} {f : Bool} {Se : Env → Res D} (hL : ∀ j ∈ L, j ∉ t.slots) {D : Ends} {σ : Sl} {H : Hp} (h : tS (gd X) W L (sAsg t f Se) D σ H) : tE (gd X) W Se σ H fun x H1 => tG (gd X) t x σ H1 D.nx := by
  obtain ⟨P, ρ, A, st, h⟩ := h
  refine ⟨P, ρ, A, st, ?_⟩
  unfold sAsg at h
  cases hs : Se ρ with
  | bad => simp only [hs] at h
  | exc x => simp only [hs] at h; exact PostX.stmt st h
  | ok d =>
    simp only [hs] at h
    intro v P1 H1 B e1 r fr
    have s1 := st.ext e1
    have nd : (B ++ A).Nodup := List.nodup_append.mpr ⟨fr.1, st.nd, fun x hx y hy z => by
      obtain ⟨o, ho⟩ := st.env.at y hy
      rw [← z, (fr.2 x hx).1] at ho; cases ho⟩
    cases f with
    | false =>
      simp only [Bool.false_eq_true, if_false] at h
      refine ⟨P1, ρ, A, d, B, s1, r, nd, fun b hb => (fr.2 b hb).2, ?_⟩
      cases ht : t.set d ρ with
      | none => simp only [ht] at h
      | some ρ' =>
        simp only [ht] at h
        intro σ' A' st' sub len pin
        refine h σ' P1 H1 A' ⟨e1.more, st', fun b hb => ?_, len, fun j hj => pin j (hL j hj)⟩
        rcases List.mem_append.mp (sub b hb) with z | z
        · exact .inl (fr.2 b z).1
        · exact .inr z
    | true =>
      simp only [if_true] at h
      have g := give_ext (A := B) e1.und fun b hb => (fr.2 b hb).2
      have e2 : Ext P H (give P1 H1 B) H1 [] := ⟨e1.same.trans g.same, g.und, e1.keep, e1.lck, fun b w q => by
        rcases g.new b w q with z | z | z
        · exact e1.new b w z
        · exact .inr (.inl (e1.free st.und z))
        · exact .inr (.inl (fr.2 b z).1)⟩
      refine ⟨give P1 H1 B, ρ, A, d.frz, [], st.ext e2, r.frz g.same fun b hb => give_in hb, by simpa using st.nd, fun b hb => by simp at hb, ?_⟩
      cases ht : t.set d.frz ρ with
      | none => simp only [ht] at h
      | some ρ' =>
        simp only [ht] at h
        intro σ' A' st' sub len pin
        exact h σ' _ H1 A' ⟨e2.more, st', fun b hb => .inr (by simpa using sub b hb), len, fun j hj => pin j (hL j hj)⟩
theorem s_asg {tg : Expr} {t : Tg} {f : Bool} {Se : Env → Res D} (he : EOk X W e Se) (hg : GOk X tg t) (hL : ∀ j ∈ L, j ∉ t.slots := by decide) (hs : swapsWithSole [tg] e pos.line X.env = pure false := by rfl) (hw : swappedStores [tg] e X.env = pure none := by rfl)
    (h1 : (assignEach [tg] X.env).map (·.2) = [assign tg X.env] := by rfl) : SOk X W L (.Assign [tg] e pos) (sAsg t f Se) := ⟨PS.imp (ps_asg he.pe hg.pg hs hw h1) fun D σ H h => asg_imp hL h⟩
theorem s_set (i : Nat) {x : Str} {p : Pos} {f : Bool} {Se : Env → Res D} (hN : X.N.Nodup) (he : EOk X W e Se) (hi : X.N[i]? = some x := by rfl) (hx : Loc X.env.scope x := by first | exact Or.inl rfl | exact Or.inr rfl) (hL : ∀ j ∈ L, j ∉ (Tg.nm i).slots := by decide)
    (hs : swapsWith e (some (.Name x p)) pos.line X.env = pure false := by rfl) (hf : X.fn x = true ∨ X.env.scope.names.lookup x = some .local := by first | exact .inl rfl | exact .inr rfl) : SOk X W L (.Assign [.Name x p] e pos) (sAsg (.nm i) f Se) := ⟨PS.imp (ps_set hN hi hx he.pe hs hf) fun D σ H h => by
  have q := asg_imp hL h
  obtain ⟨P, ρ, A, st, q⟩ := q
  refine ⟨P, ρ, A, st, ?_⟩
  cases hs : Se ρ with
  | bad => simp only [hs] at q
  | exc x => simp only [hs] at q; exact q
  | ok d =>
    simp only [hs] at q
    intro v P1 H1 B e1 r fr
    obtain ⟨P2, ρ2, A2, d2, B2, st2, r2, nd2, o2, h2⟩ := q v P1 H1 B e1 r fr
    simp only [Tg.set] at h2
    by_cases hl : i < ρ2.length
    · rw [if_pos hl] at h2
      obtain ⟨A', st', sub⟩ := st2.store r2 nd2 o2 hl
      refine h2 _ A' st' sub (by simp) fun j hj => ?_
      have hne : i ≠ j := fun e => hj (by simp [Tg.slots, e])
      rw [List.getElem?_set_ne hne]
    · rw [if_neg hl] at h2; exact h2.elim⟩
theorem s_setLc (i : Nat) {x : Str} {p : Pos} {f bor : Bool} {elt tg iter : Expr} {ifs : List Expr} {scope : Scope} {own : List (Str × Nat)} {p2 : Pos} {Si : Env → Res (List D)} {t : Tg} {Tt : Env → Res Bool} {E : Env → Res D} (hc : X.calm = true) (hN : X.N.Nodup) (hi : IOk X W bor tg iter Si)
    (ok : BlkOk X.N X.env.scope scope own) (ht : ∀ i ∈ t.slots, i ∈ own.map (·.2))
    (hg : ∀ (s : Shared) (H : Hp) (C : Addr) (cl : List (Str × Addr)) (fp : List Addr), GOk (X.blk s H scope (compEnvC scope cl C X.env) fp) tg t) (hT : ∀ (s : Shared) (H : Hp) (C : Addr) (cl : List (Str × Addr)) (fp : List Addr), TsOk (X.blk s H scope (compEnvC scope cl C X.env) fp) WF ifs Tt)
    (he : ∀ (s : Shared) (H : Hp) (C : Addr) (cl : List (Str × Addr)) (fp : List Addr), EOk (X.blk s H scope (compEnvC scope cl C X.env) fp) WF elt E)
    (hy : X.N[i]? = some x := by rfl) (hyl : X.env.scope.names.lookup x = some .local := by rfl) (hsw : swapsWith (.ListComp elt [⟨tg, iter, ifs, 0⟩] scope p2) (some (.Name x p)) pos.line X.env = pure true := by exact sw_true rfl rfl rfl (by decide +kernel))
    (hL : ∀ j ∈ L, j ∉ (Tg.nm i).slots := by decide) (hs : ∀ x, foldedSetIterable iter X.env x = pure x := by intro _; rfl) :
    SOk X W L (.Assign [.Name x p] (.ListComp elt [⟨tg, iter, ifs, 0⟩] scope p2) pos) (sAsg (.nm i) f (sLc Si t (own.map (·.2)) Tt E)) :=
  ⟨PS.imp (ps_setLc hc hN hy hyl hsw hi.pi ok (fun s H C cl fp => (hg s H C cl fp).pg) (fun s H C cl fp => (hT s H C cl fp).pts) (fun s H C cl fp => (he s H C cl fp).pe) hs) fun D σ H h => by
    have q := asg_imp hL h
    refine lc_imp (bor := bor) (T := Tt) (E := E) ht ?_
    obtain ⟨P, ρ, A, st, q⟩ := q
    refine ⟨P, ρ, A, st, ?_⟩
    cases hs : sLc Si t (own.map (·.2)) Tt E ρ with
    | bad => simp only [hs] at q
    | exc x => simp only [hs] at q; exact q
    | ok d =>
      simp only [hs] at q
      intro v P1 H1 B e1 r fr
      obtain ⟨P2, ρ2, A2, d2, B2, st2, r2, nd2, o2, h2⟩ := q v P1 H1 B e1 r fr
      simp only [Tg.set] at h2
      by_cases hl : i < ρ2.length
      · rw [if_pos hl] at h2
        obtain ⟨A', st', sub⟩ := st2.store r2 nd2 o2 hl
        refine h2 _ A' st' sub (by simp) fun j hj => ?_
        have hne : i ≠ j := fun e => hj (by simp [Tg.slots, e])
        rw [List.getElem?_set_ne hne]
      · rw [if_neg hl] at h2; exact h2.elim⟩
def sPar (i j : Nat) (S : Env → Res (List D)) : Env → SRes := fun ρ => match S ρ with
  | .ok [d, e] => match (Tg.tp [.nm i, .nm j]).set (.tup [d, e]) ρ with
    | some ρ' => .nx ρ'
    | none => .bad
  | .exc x => .exc x ρ
  | _ => .bad
def sExpr (S : Env → Res D) : Env → SRes := fun ρ => match S ρ with
  | .ok _ => .nx ρ
  | .exc x => .exc x ρ
  | .bad => .bad
theorem s_expr {Se : Env → Res D} (he : EOk X W e Se) (hs : swapsWith e none pos.line X.env = pure false := by rfl) : SOk X W L (.Expr e pos) (sExpr Se) := ⟨PS.imp (ps_expr he.pe hs) fun D σ H ⟨P, ρ, A, st, h⟩ => ⟨P, ρ, A, st, by
  unfold sExpr at h
  cases hs : Se ρ with
  | bad => simp only [hs] at h
  | exc x => simp only [hs] at h; exact PostX.stmt st h
  | ok d => simp only [hs] at h; exact fun v P1 H1 B e1 r fr => h σ P1 H1 A (.pure st e1)⟩⟩
def sBreak : Env → SRes := fun ρ => .bk ρ
def sRet (S : Env → Res D) : Env → SRes := fun ρ => match S ρ with
  | .ok d => .rt d ρ
  | .exc x => .exc x ρ
  | .bad => .bad
theorem s_ret {Se : Env → Res D} (he : EOk X W e Se) : SOk X W L (.Return (some e) pos) (sRet Se) := ⟨PS.imp (ps_ret he.pe) fun D σ H ⟨P, ρ, A, st, h⟩ => ⟨P, ρ, A, st, by
  unfold sRet at h
  cases hs : Se ρ with
  | bad => simp only [hs] at h
  | exc x => simp only [hs] at h; exact PostX.stmt st h
  | ok d =>
    simp only [hs] at h
    exact fun v P1 H1 B e1 r fr => h v σ P1 H1 A B (.pure st e1) r (List.nodup_append.mpr ⟨fr.1, st.nd, fun x hx y hy z => by
      obtain ⟨o, ho⟩ := st.env.at y hy
      rw [← z, (fr.2 x hx).1] at ho; cases ho⟩) fun b hb => ⟨(fr.2 b hb).2, .inl (fr.2 b hb).1⟩⟩⟩
def sRetN : Env → SRes := fun ρ => .rt .non ρ
def sRetV (i : Nat) : Env → SRes := fun ρ => match ρ[i]? with
  | some (some d) => .rt d (ρ.set i none)
  | _ => .bad
def sIfS (C : Env → Res Bool) (S T : Env → SRes) : Env → SRes := fun ρ => match C ρ with
  | .ok true => S ρ
  | .ok false => T ρ
  | .exc x => .exc x ρ
  | .bad => .bad
theorem s_if {C : Env → Res Bool} {a b : List Stmt} (hc : TOk X W c C) (ha : SsOk X W L a S) (hb : SsOk X W L b T) : SOk X W L (.If c a b pos) (sIfS C S T) := ⟨PS.imp (ps_if hc.pt ha.pss hb.pss) fun D σ H ⟨P, ρ, A, st, h⟩ => ⟨P, ρ, A, st, by
  unfold sIfS at h
  cases hs : C ρ with
  | bad => simp only [hs] at h
  | exc x => simp only [hs] at h; exact PostX.stmt st h
  | ok k =>
    intro P1 H1 e1
    cases k with
    | true => simp only [hs] at h; rw [if_pos rfl]; exact tS_from (ρ := ρ) st.und (.pure st e1) (S ρ) h rfl
    | false => simp only [hs] at h; rw [if_neg Bool.false_ne_true]; exact tS_from (ρ := ρ) st.und (.pure st e1) (T ρ) h rfl⟩⟩
def forRun (t : Tg) (S : Env → SRes) : List D → Env → SRes
  | [], ρ => .nx ρ
  | d :: ds, ρ => match t.set d ρ with
    | some ρ1 => match S ρ1 with
      | .nx ρ2 => forRun t S ds ρ2
      | .bk ρ2 => .nx ρ2
      | r => r
    | none => .bad
def sFor (Si : Env → Res (List D)) (t : Tg) (S : Env → SRes) : Env → SRes := fun ρ => match Si ρ with
  | .ok ds => forRun t S ds ρ
  | .exc x => .exc x ρ
  | .bad => .bad
theorem s_for {tg iter : Expr} {t : Tg} {Si : Env → Res (List D)} {body : List Stmt} (hp : PassesOwn (model X.prog X.w) X.A X.env X.xe) (hc : X.calm = true) (hi : IOk X W false tg iter Si) (hg : GOk X tg t) (hb : SsOk X W L body S) (hL : ∀ j ∈ L, j ∉ t.slots := by decide)
    (hs : ∀ x, foldedSetIterable iter X.env x = pure x := by intro _; rfl) : SOk X W L (.For tg iter body [] pos) (sFor Si t S) := ⟨PS.imp (ps_for hp hc hi.pi hg.pg hb.pss hs) fun D σ H ⟨P, ρ, A, st, h⟩ => ⟨P, ρ, A, st, by
  unfold sFor at h
  cases hs : Si ρ with
  | bad => simp only [hs] at h
  | exc x => simp only [hs] at h; exact PostX.stmt st h
  | ok ds =>
    simp only [hs] at h
    intro J P0 H0 Src it sr e0
    have a0 : After (gd X) P H σ A L P0 H0 σ ρ A := .pure st e0
    let Iv : Nat → Sl → Hp → Prop := fun i σc Hc => i ≤ ds.length ∧ ∃ Pc ρc Ac, After (gd X) P H σ A L Pc Hc σc ρc Ac ∧ Src Pc Hc ∧ forRun t S (ds.drop i) ρc = forRun t S ds ρ
    refine ⟨fun i m σc Hc => m = ds.length - i ∧ Iv i σc Hc, ⟨ds.length, by simp, Nat.zero_le _, P0, ρ, A, a0, sr, rfl⟩, ?_⟩
    rintro i m σc Hc ⟨rfl, hi, Pc, ρc, Ac, a, sc, hr⟩
    have uc := a.st.und
    by_cases hlt : i < ds.length
    · right
      obtain ⟨hgo, hy⟩ := it.go i Pc Hc uc sc hlt
      refine ⟨hgo, Iv (i + 1), fun σ' H' q => ⟨ds.length - (i + 1), by omega, rfl, q⟩, fun x H' y => ?_⟩
      obtain ⟨P2, d, e2, hd, rd⟩ := hy x H' y
      have hdrop : ds.drop i = d :: ds.drop (i + 1) := by
        rw [List.drop_eq_getElem_cons hlt]
        congr 1
        rw [List.getElem?_eq_getElem hlt] at hd
        exact Option.some.inj hd
      rw [← hr] at h
      rw [hdrop] at h hr
      simp only [forRun] at h
      have a2 := a.trans st.und (.pure (L := L) a.st e2)
      refine ⟨P2, ρc, Ac, d, [], a2.st, rd, by simpa using a2.st.nd, fun b hb => by simp at hb, ?_⟩
      cases ht : t.set d ρc with
      | none => simp only [ht] at h
      | some ρ1 =>
        simp only [ht] at h
        intro σ1 A1 st1 sub len pin
        have a3 : After (gd X) P2 H' σc Ac L P2 H' σ1 ρ1 A1 := ⟨Ext.refl a2.st.und, st1, fun b hb => .inr (by simpa using sub b hb), len, fun j hj => pin j (hL j hj)⟩
        have a4 := a2.trans st.und a3
        refine ⟨P2, ρ1, A1, st1, ?_⟩
        cases hS : S ρ1 with
        | bad => simp only [hS] at h
        | nx ρ2 =>
          simp only [hS] at h
          intro σ' P' H2 A' b
          refine ⟨hlt, P', ρ2, A', a4.trans st.und b, ?_, ?_⟩
          · exact it.stay P2 H' P' H2 A1 (fun z => by cases z) a2.st.und b.ext (it.stay Pc Hc P2 H' [] (fun _ => rfl) uc e2 sc)
          · rw [← hr]
            simp only [forRun, ht, hS]
        | bk ρ2 => simp only [hS] at h; exact fun σ' P' H2 A' b => h _ _ _ _ (a4.trans st.und b)
        | rt dv ρ2 => simp only [hS] at h; exact fun v σ' P' H2 A' B b q1 q2 q3 => h v _ _ _ _ B (a4.trans st.und b) q1 q2 (a4.newB st.und q3)
        | exc x ρ2 => simp only [hS] at h; exact fun cls dx σ' P' H2 A' b q => h cls dx _ _ _ _ (a4.trans st.und b) q
    · left
      have e : i = ds.length := by omega
      subst e
      refine ⟨it.stop _ Pc Hc uc sc (Nat.le_refl _), ?_⟩
      rw [← hr, List.drop_length] at h
      exact h σc Pc Hc Ac a⟩⟩
end
end RL
namespace RL
open PySem PySem.Spec PyProof.Rows L2
structure GRoom (k : Nat) (A : Around) : Prop where
  r : Room k A
  g : A.guards = some []
theorem GRoom.mono {j k : Nat} {A : Around} (h : GRoom k A) (l : j ≤ k) : GRoom j A := ⟨h.r.mono l, h.g⟩
structure FnG (P : Program) (w : World) (K : PySem.W.Frag) (mg : Str → Option Value) (base : Heap) (k : Nat) (f : Addr) (fd : FuncData) (ps : List Str) (sp : Sp) : Prop where
  len : ∀ vs H Q E, sp vs H Q E → vs.length = ps.length
  run : ∀ (A : Around) (outer : List PySem.Env) (s : Shared) (H : Hp) (args : Args) (us : List Value) (vs : List V) (Q : VK) (E : XK), GRoom k A → Env0 P w K mg base A outer s H →
    BindsTo s fd args (ps.zip us) → Vals vs us → sp vs H Q E → codeAny (model P w) A (.call (.ref f) args) (CR (L2.CX P w) outer P w H s Q E) s
theorem FnG.mono {P : Program} {w : World} {K : PySem.W.Frag} {mg : Str → Option Value} {base : Heap} {j k : Nat} {f : Addr} {fd : FuncData} {ps : List Str} {sp : Sp} (F : FnG P w K mg base j f fd ps sp) (h : j ≤ k) : FnG P w K mg base k f fd ps sp :=
  ⟨F.len, fun A outer s H args us vs Q E hr => F.run A outer s H args us vs Q E (hr.mono h)⟩
section
variable {P : Program} {w : World} {K : PySem.W.Frag} {mg : Str → Option Value} {base : Heap}
def Cod (K : PySem.W.Frag) (f : Addr) (cdv : Value) : Prop := ∃ oc od fd osl, K.lookup f = some ⟨oc, od, .func fd, osl⟩ ∧ fd.code = cdv
theorem fnG_of {k : Nat} {x qual : Str} {st : Stmt} {f : Addr} {fd : FuncData} {N ps : List Str} {sp : Sp} (F : Fun K x qual st f fd) (S : FnScope N ps (defScope st)) (len : ∀ vs H Q E, sp vs H Q E → vs.length = ps.length)
    (body : ∀ (cdv : Value) (A : Around) (outer : List PySem.Env) (s : Shared) (H : Hp) (vs : List V) (Q : VK) (E : XK), Cod K f cdv → GRoom k (cxOf (L2.CX P w) P w K mg base N qual (defScope st) f cdv A outer s H E).A → sp vs H Q E →
      ∃ t, PSs (cxOf (L2.CX P w) P w K mg base N qual (defScope st) f cdv A outer s H E) (defBody st) t ∧ t { nx := fun _ H' => Q .non H', rt := Q } (L2.start N vs) H) : FnG P w K mg base (k + 1) f fd ps sp := by
  obtain ⟨oc, od, kV, doc, pm, an, cdv, ct, osl, e, look, isCode⟩ := F.ex
  subst e
  constructor
  · exact len
  intro A outer s H args us vs Q E room env binds rel prom
  have lens : vs.length = ps.length := len vs H Q E prom
  have there : ∀ b o, base.get? b = some o → s.heap.get? b = some o := fun b o q => (env.bs b o q).1
  have kin : K.In s.heap := env.mod.kin.keeps there
  have kinds : ∀ y ∈ ps.zip us, (defScope st).names.lookup y.1 = some .local ∨ ((defScope st).names.lookup y.1 = some .cell ∧ ((cellsFrom (s.heap.objs.size + 1) (defScope st).names []).lookup y.1).isSome = true) := by
    intro y hy
    have hy1 : y.1 ∈ ps := (List.of_mem_zip (a := y.1) (b := y.2) hy).1
    cases S.par y.1 hy1 with
    | inl q => exact Or.inl q
    | inr q => exact Or.inr ⟨q, PySem.W.cellsFrom_some _ _ _ (Or.inl q)⟩
  apply codeAny_call_function room.r.depth (kin _ _ look) rfl S.co S.gen rfl (PySem.W.codeRec_of kin isCode)
  apply binds
  apply wpAny_newFunctionEnv_cells S.kind kinds
  intro env1 henv s1 inCall
  subst henv
  constructor
  · exact (env.mod.nolimit.keeps there).keeps inCall.toInCall.keep
  apply codeAny_func
  obtain ⟨t, ht, q⟩ := body cdv A outer s H vs Q E ⟨_, _, _, _, look, rfl⟩ ⟨room.r.deeper _, room.g⟩ prom
  have I := inv_start (CX := L2.CX P w) (E := E) (base := base) (K := K) (mg := mg) (w := w) S room.r.hd env lens rel inCall
  apply wpAny_mono (ht.run [] s1 (L2.start N vs) H _ I q)
  · intro fl s' h
    cases fl with
    | ret u =>
      obtain ⟨v, σ', H', J, rv, q'⟩ := h
      exact ⟨v, H', J.os, J.bare, J.base, J.hok, rv, q'⟩
    | next =>
      obtain ⟨σ', H', J, q'⟩ := h
      exact ⟨.non, H', J.os, J.bare, J.base, J.hok, rfl, q'⟩
    | brk =>
      obtain ⟨_, _, _, q'⟩ := h
      exact q'.elim
    | cont =>
      obtain ⟨_, _, _, q'⟩ := h
      exact q'.elim
  · intro u s' h
    exact h
end
inductive FR where
  | ok (d : D) (outs : List D) | exc (x : D) (outs : List D) | bad
def pick {α : Type} (L : List Nat) (vs : List α) : List α := L.filterMap fun i => vs[i]?
def spF (G : Gd) (n : Nat) (L : List Nat) (φ : List D → FR) : Sp := fun vs H Q E => vs.length = n ∧ ∃ P ds A, Under P H ∧ Marks G P ∧ RelL G P H vs ds A ∧ A.Nodup ∧ (∀ b ∈ A, P b = none) ∧ match φ ds with
  | .ok d outs => ∀ v P' H' B C, Ext P H P' H' A → Rel G P' H' v d B → RelL G P' H' (pick L vs) outs C → (B ++ C).Nodup → (∀ b ∈ B ++ C, P' b = none ∧ (H b = none ∨ b ∈ A)) → Q v H'
  | .exc x outs => ∀ cls dx P' H' C, Ext P H P' H' A → XRel G P' cls dx x → RelL G P' H' (pick L vs) outs C → C.Nodup → (∀ b ∈ C, P' b = none ∧ (H b = none ∨ b ∈ A)) → E cls dx H'
  | .bad => False
def outsOf (L : List Nat) (ρ : Env) : Option (List D) := L.mapM fun i => (ρ[i]?).bind id
def entry (n : Nat) (ds : List D) : Env := ds.map some ++ List.replicate (n - ds.length) none
def runDef (n : Nat) (L : List Nat) (S : Env → SRes) : List D → FR := fun ds => match S (entry n ds) with
  | .nx ρ => match outsOf L ρ with
    | some os => .ok .non os
    | none => .bad
  | .rt d ρ => match outsOf L ρ with
    | some os => .ok d os
    | none => .bad
  | .exc x ρ => match outsOf L ρ with
    | some os => .exc x os
    | none => .bad
  | _ => .bad
section
variable {G : Gd} {P H : Hp}
theorem RelL.entry : ∀ {vs : List V} {ds : List D} {A : List Addr} (m : Nat), RelL G P H vs ds A → EnvRel G P H (vs.map some ++ List.replicate m none) (ds.map some ++ List.replicate m none) A
  | _, _, _, m, .nil => by
    simp only [List.map_nil, List.nil_append]
    induction m with
    | zero => exact .nil
    | succ m ih => exact .no ih
  | _, _, _, m, .cons r t => .val r (RelL.entry m t)
theorem EnvRel.picks : ∀ {L : List Nat} {σ : Sl} {ρ : Env} {A : List Addr} {os : List D}, EnvRel G P H σ ρ A → L.Nodup → outsOf L ρ = some os → ∃ vs C R, A.Perm (C ++ R) ∧ RelL G P H vs os C ∧ (L.map fun i => σ[i]?) = vs.map fun v => some (some v)
  | [], σ, ρ, A, os, e, _, h => by
    have h' : os = [] := by simpa [outsOf] using h.symm
    subst h'
    exact ⟨[], [], A, .refl _, .nil, rfl⟩
  | i :: L, σ, ρ, A, os, e, nd, h => by
    obtain ⟨n1, n2⟩ := List.nodup_cons.mp nd
    simp only [outsOf, List.mapM_cons] at h
    cases hi : (ρ[i]?).bind id with
    | none => rw [hi] at h; cases h
    | some d =>
      rw [hi] at h
      cases hr : L.mapM fun i => (ρ[i]?).bind id with
      | none =>
        have h2 : (L.mapM fun i => (ρ[i]?).bind id).bind (fun bs => some (d :: bs)) = some os := h
        rw [hr] at h2; cases h2
      | some os' =>
        have h2 : (L.mapM fun i => (ρ[i]?).bind id).bind (fun bs => some (d :: bs)) = some os := h
        rw [hr] at h2
        obtain rfl : d :: os' = os := Option.some.inj h2
        have hρ : ρ[i]? = some (some d) := by
          cases q : ρ[i]? with
          | none => rw [q] at hi; cases hi
          | some o =>
            rw [q] at hi
            have : o = some d := hi
            rw [this]
        have hl : i < ρ.length := (List.getElem?_eq_some_iff.mp hρ).1
        obtain ⟨B, C, p, q, hv⟩ := e.out hl
        rcases hv with ⟨d', v, h1, h2', r⟩ | ⟨h1, _⟩
        · rw [hρ] at h1
          cases h1
          have hq : outsOf L (ρ.set i none) = some os' := by
            have e0 : ∀ (M : List Nat), i ∉ M → M.mapM (fun j => ((ρ.set i none)[j]?).bind id) = M.mapM fun j => (ρ[j]?).bind id := by
              intro M
              induction M with
              | nil => intro _; rfl
              | cons m M ih =>
                intro hm
                simp only [List.mem_cons, not_or] at hm
                rw [List.mapM_cons, List.mapM_cons, ih hm.2, List.getElem?_set_ne hm.1]
            unfold outsOf
            rw [e0 L n1, hr]
          obtain ⟨vs, C', R, p', r', g⟩ := q.picks n2 hq
          refine ⟨v :: vs, B ++ C', R, ?_, .cons r r', ?_⟩
          · refine p.trans ?_
            rw [List.append_assoc]
            exact p'.append_left B
          · simp only [List.map_cons, h2', g]
        · rw [hρ] at h1; cases h1
end
section
variable {P : Program} {w : World} {K : PySem.W.Frag} {mg : Str → Option Value} {base : Heap}
theorem pick_of {L : List Nat} {σ' : Sl} {vs xs : List V} {n : Nat} (h : (L.map fun i => σ'[i]?) = xs.map fun v => some (some v)) (pin : ∀ j ∈ L, σ'[j]? = (vs.map some ++ List.replicate n none)[j]?) : pick L vs = xs := by
  induction L generalizing xs with
  | nil =>
    cases xs with
    | nil => rfl
    | cons _ _ => cases h
  | cons i L ih =>
    cases xs with
    | nil => cases h
    | cons x xs =>
      simp only [List.map_cons, List.cons.injEq] at h
      have hi := pin i List.mem_cons_self
      rw [h.1] at hi
      have hlt : i < vs.length := by
        by_cases hlt : i < vs.length
        · exact hlt
        · rw [List.getElem?_append_right (by simpa using hlt), List.getElem?_replicate] at hi
          split at hi <;> cases hi
      rw [List.getElem?_append_left (by simpa using hlt), List.getElem?_map] at hi
      have hv : vs[i]? = some x := by
        cases q : vs[i]? with
        | none => rw [q] at hi; cases hi
        | some y => rw [q] at hi; cases hi; rfl
      have r := ih (xs := xs) h.2 fun j hj => pin j (List.mem_cons_of_mem _ hj)
      unfold pick at r ⊢
      rw [List.filterMap_cons, hv, r]
theorem fn_okC {k : Nat} {x qual : Str} {st : Stmt} {f : Addr} {fd : FuncData} {N ps : List Str} {S : Env → SRes} {L : List Nat} (F : Fun K x qual st f fd) (Sc : FnScope N ps (defScope st)) (hL : L.Nodup)
    (body : ∀ (X : Cx) (W : WX) (cdv : Value) (A : Around) (outer : List PySem.Env) (s : Shared) (H : Hp) (E : XK), X = cxOf (L2.CX P w) P w K mg base N qual (defScope st) f cdv A outer s H E → Cod K f cdv → GRoom k X.A → Takes X W → PassesOwn (model X.prog X.w) X.A X.env X.xe → SsOk X W L (defBody st) S) :
    FnG P w K mg base (k + 1) f fd ps (spF ⟨K, mg⟩ ps.length L (runDef N.length L S)) := by
  refine fnG_of F Sc (fun vs H Q E h => h.1) fun cdv A outer s H vs Q E hcd hr h => ?_
  have tk := takes_of (X := cxOf (L2.CX P w) P w K mg base N qual (defScope st) f cdv A outer s H E) (E := E) rfl rfl rfl rfl
  have hp := passes_of (X := cxOf (L2.CX P w) P w K mg base N qual (defScope st) f cdv A outer s H E) rfl
  have B := body _ _ cdv A outer s H E rfl hcd hr tk hp
  refine ⟨_, B.pss, ?_⟩
  obtain ⟨hlen, Pg, ds, As, un, mks, rl, nd, off, h⟩ := h
  have hds : ds.length = vs.length := rl.length.symm
  have er := rl.entry (N.length - vs.length)
  refine ⟨Pg, entry N.length ds, As, ⟨un, by unfold entry L2.start; rw [hds]; exact er, nd, off, mks⟩, ?_⟩
  unfold runDef at h
  cases hS : S (entry N.length ds) with
  | bad => rw [hS] at h; exact h.elim
  | bk ρ => rw [hS] at h; exact h.elim
  | nx ρ =>
    rw [hS] at h
    cases ho : outsOf L ρ with
    | none => simp only [ho] at h
    | some os =>
      simp only [ho] at h
      intro σ' P' H' A' a
      obtain ⟨xs, C, R, p, r, g⟩ := a.st.env.picks hL ho
      have e := pick_of g a.pin
      have cA : ∀ b ∈ C, b ∈ A' := fun b hb => p.symm.subset (List.mem_append_left _ hb)
      exact h .non P' H' [] C a.ext .non (e ▸ r) (by simpa using (List.nodup_append.mp (p.nodup_iff.mp a.st.nd)).1) fun b hb => ⟨a.st.off b (cA b (by simpa using hb)), a.sub b (cA b (by simpa using hb))⟩
  | rt d ρ =>
    rw [hS] at h
    cases ho : outsOf L ρ with
    | none => simp only [ho] at h
    | some os =>
      simp only [ho] at h
      intro v σ' P' H' A' B a rv ndB fB
      obtain ⟨xs, C, R, p, r, g⟩ := a.st.env.picks hL ho
      have e := pick_of g a.pin
      have cA : ∀ b ∈ C, b ∈ A' := fun b hb => p.symm.subset (List.mem_append_left _ hb)
      obtain ⟨m1, m2, m3⟩ := List.nodup_append.mp ndB
      refine h v P' H' B C a.ext rv (e ▸ r) (List.nodup_append.mpr ⟨m1, (List.nodup_append.mp (p.nodup_iff.mp a.st.nd)).1, fun x hx y hy => m3 x hx y (cA y hy)⟩) fun b hb => ?_
      rcases List.mem_append.mp hb with z | z
      · exact fB b z
      · exact ⟨a.st.off b (cA b z), a.sub b (cA b z)⟩
  | exc x ρ =>
    rw [hS] at h
    cases ho : outsOf L ρ with
    | none => simp only [ho] at h
    | some os =>
      simp only [ho] at h
      intro cls dx σ' P' H' A' a xr
      obtain ⟨xs, C, R, p, r, g⟩ := a.st.env.picks hL ho
      have e := pick_of g a.pin
      have cA : ∀ b ∈ C, b ∈ A' := fun b hb => p.symm.subset (List.mem_append_left _ hb)
      exact h cls dx P' H' C a.ext xr (e ▸ r) (List.nodup_append.mp (p.nodup_iff.mp a.st.nd)).1 fun b hb => ⟨a.st.off b (cA b hb), a.sub b (cA b hb)⟩
theorem fn_ok {k : Nat} {x qual : Str} {st : Stmt} {f : Addr} {fd : FuncData} {N ps : List Str} {S : Env → SRes} {L : List Nat} (F : Fun K x qual st f fd) (Sc : FnScope N ps (defScope st)) (hL : L.Nodup)
    (body : ∀ (X : Cx) (W : WX) (cdv : Value) (A : Around) (outer : List PySem.Env) (s : Shared) (H : Hp) (E : XK), X = cxOf (L2.CX P w) P w K mg base N qual (defScope st) f cdv A outer s H E → GRoom k X.A → Takes X W → PassesOwn (model X.prog X.w) X.A X.env X.xe → SsOk X W L (defBody st) S) :
    FnG P w K mg base (k + 1) f fd ps (spF ⟨K, mg⟩ ps.length L (runDef N.length L S)) := fn_okC F Sc hL fun X W cdv A outer s H E e _ => body X W cdv A outer s H E e
end
section
variable {X : Cx} {W : WX} {k : Nat} {f : Addr} {fd : FuncData} {ps : List Str} {sp : Sp} {x : Str} {p pos : Pos} {e : Expr} {es : List Expr}
theorem run_fnG {pins : List (Addr × Obj)} {σ : Sl} {H : Hp} {s : Shared} {Q : VK} {us : List Value} {vs : List V} (F : FnG X.prog X.w X.K X.mg X.base k f fd ps sp) (hr : GRoom k X.A) (hb : Binds X.K fd ps []) (tk : Takes X W)
    (I : Inv X pins σ H s) (r : Vals vs us) (h : sp vs H Q fun cls d H' => W cls d σ H') : wpAny (model X.prog X.w) X.A (call (.ref f) us) (EP X pins σ Q) X.xe s := by
  have lens := F.len _ _ _ _ h
  have bt := hb s us I.kIn (by rw [List.append_nil, ← r.length]; exact lens)
  rw [List.append_nil] at bt
  apply wpAny_call
  apply codeAny_mono (F.run X.A X.stack s H ⟨us, []⟩ us vs Q _ hr I.env0 bt r h)
  intro res s' q
  cases res with
  | error u => exact tk u s' (XE.of_call I (fun _ _ _ z => z) q)
  | ok fl =>
    cases fl with
    | ret u => exact I.after q
    | next => exact q.elim
    | brk => exact q.elim
    | cont => exact q.elim
def sCallF (n : Nat) (φ : List D → FR) (S : Env → Res (List D)) : Env → Res D := fun ρ => (S ρ).bind fun ds => if ds.length = n then (match φ (frzL ds) with
  | .ok d _ => .ok d
  | .exc x _ => .exc x
  | .bad => .bad) else .bad
theorem give_ext0 {P H P1 H1 : Hp} {B : List Addr} (u : Under P H) (e : Ext P H P1 H1 []) (f : Fresh P1 H B) : Ext P H (give P1 H1 B) H1 [] ∧ Same P1 (give P1 H1 B) := by
  have g := give_ext (A := B) e.und fun b hb => (f.2 b hb).2
  refine ⟨⟨e.same.trans g.same, g.und, e.keep, e.lck, fun b w q => ?_⟩, g.same⟩
  rcases g.new b w q with z | z | z
  · exact e.new b w z
  · exact .inr (.inl (e.free u z))
  · exact .inr (.inl (f.2 b z).1)
theorem spF_of {G : Gd} {φ : List D → FR} {n : Nat} {P H P1 H1 : Hp} {vs : List V} {ds : List D} {B : List Addr} {Q : VK} {E : XK} {W : WX} {σ : Sl} (u : Under P H) (mk : Marks G P) (e : Ext P H P1 H1 []) (r : RelL G P1 H1 vs ds B) (f : Fresh P1 H B) (hn : vs.length = n)
    (h : match φ (frzL ds) with
      | .ok d _ => Post G P H Q d
      | .exc x _ => PostX G P H W σ x
      | .bad => False) (hE : ∀ cls d H', W cls d σ H' → E cls d H') : spF G n [] φ vs H1 Q E := by
  obtain ⟨e2, sm⟩ := give_ext0 u e f
  refine ⟨hn, give P1 H1 B, frzL ds, [], e2.und, mk.mono e2.same, r.frz sm fun b hb => give_in hb, List.nodup_nil, fun b hb => by simp at hb, ?_⟩
  cases hφ : φ (frzL ds) with
  | bad => rw [hφ] at h; exact h.elim
  | ok d os =>
    rw [hφ] at h
    intro v P' H' B' C e3 rv rc nd fr
    refine h v P' H' B' (e2.trans u e3) rv ⟨(List.nodup_append.mp nd).1, fun b hb => ?_⟩
    obtain ⟨q1, q2⟩ := fr b (List.mem_append_left _ hb)
    rcases q2 with z | z
    · exact ⟨e2.free u z, q1⟩
    · simp at z
  | exc x os =>
    rw [hφ] at h
    intro cls dx P' H' C e3 xr rc nd fr
    exact hE _ _ _ (h cls dx P' H' (e2.trans u e3) xr)
theorem callF_post {n : Nat} {φ : List D → FR} {S : Env → Res (List D)} {P H : Hp} {ρ : Env} {Q : VK} {σ : Sl} {ds : List D} (hs : S ρ = .ok ds) (h : match sCallF n φ S ρ with
      | .ok d => Post (gd X) P H Q d
      | .exc x => PostX (gd X) P H W σ x
      | .bad => False) : ds.length = n ∧ match φ (frzL ds) with
      | .ok d _ => Post (gd X) P H Q d
      | .exc x _ => PostX (gd X) P H W σ x
      | .bad => False := by
  unfold sCallF at h
  simp only [hs, Res.bind] at h
  by_cases hn : ds.length = n
  · rw [if_pos hn] at h
    refine ⟨hn, ?_⟩
    cases hφ : φ (frzL ds) <;> simp only [hφ] at h <;> exact h
  · rw [if_neg hn] at h; exact h.elim
theorem RelL.len2 {G : Gd} {P H : Hp} {vs : List V} {ds : List D} {A : List Addr} (r : RelL G P H vs ds A) : ds.length = vs.length := r.length.symm
theorem e_call {φ : List D → FR} {S : Env → Res (List D)} (F : FnG X.prog X.w X.K X.mg X.base k f fd ps (spF (gd X) ps.length [] φ)) (hr : GRoom k X.A) (hm : X.mg x = some (.ref f)) (hk : PySem.W.keepIn X.K (.ref f) = true) (hb : Binds X.K fd ps []) (tk : Takes X W)
    (ha : AOk X W (e :: es) S) (hg : Gl X x := by rfl) (hdb : (x == ("__debug__" : Str)) = false := by decide) (he : starEach (e :: es) X.env = (false, eval e X.env) :: starEach es X.env := by rfl) (hpl : (backTo pos (starEach es X.env)).any (·.1) = false := by rfl) :
    EOk X W (.Call (.Name x p) (e :: es) [] pos) (sCallF ps.length φ S) := ⟨⟨fun pins s σ H Q I ⟨P, ρ, A, st, h⟩ => by
  have ht : tL (gd X) W S σ H fun vs H1 => spF (gd X) ps.length [] φ vs H1 Q fun cls d H' => W cls d σ H' := by
    refine ⟨P, ρ, A, st, ?_⟩
    cases hs : S ρ with
    | bad => simp only [sCallF, hs, Res.bind] at h
    | exc z => simp only [sCallF, hs, Res.bind] at h; exact h
    | ok ds =>
      obtain ⟨hn, h'⟩ := callF_post hs h
      exact fun vs P1 H1 B e1 r f => spF_of st.und st.mks e1 r f (r.length.trans hn) h' fun _ _ _ z => z
  apply wpAny_Call_Name_kw
  refine ld_glob I hg hm ?_ hdb
  refine PySem.W.callWith_K (h₀ := X.base) I.ok.mod.kin hk ?_ he hpl
  apply thn (ha.pa.run pos pins s σ H _ I ht)
  intro us s1 ⟨vs, H1, I1, r, q⟩
  exact ⟨I1.kIn, run_fnG F hr hb tk I1 r q⟩⟩⟩
end
end RL
namespace RL
open PySem PySem.Spec PyProof.Rows L2
section
variable {P : Program} {w : World} {K : PySem.W.Frag} {mg mb : Str → Option Value} {k : Nat} {fa a : Addr} {fd : FuncData} {x : Str} {φ : List D → FR} {s : Shared} {vs : List Value} {ns : List Int}
theorem look_mem {α : Type} {a : Addr} {b : α} : ∀ {l : List (Addr × α)}, l.lookup a = some b → (a, b) ∈ l
  | [], h => by simp at h
  | (c, d) :: l, h => by
    rw [List.lookup_cons] at h
    by_cases e : a = c
    · subst e
      simp at h
      simp [h]
    · have : (a == c) = false := by simpa using e
      rw [this] at h
      exact List.mem_cons_of_mem _ (look_mem h)
structure CtabOk (K : PySem.W.Frag) (h : Heap) : Prop where
  empty : ∀ p ∈ tabsOf K, h.get? p.1 = some { cls := .none, data := .fields #[] }
  out : ∀ p ∈ tabsOf K, K.lookup p.1 = none
  one : ∀ p ∈ tabsOf K, ∀ p' ∈ tabsOf K, p.1 = p'.1 → p = p'
  code : ∀ p ∈ tabsOf K, ∃ c, PySem.W.CodeHd h c p.1
theorem CtabOk.keeps {K : PySem.W.Frag} {h h' : Heap} (t : CtabOk K h) (k : ∀ b o, h.get? b = some o → h'.get? b = some o) : CtabOk K h' where
  empty := fun p hp => k _ _ (t.empty p hp)
  out := t.out
  one := t.one
  code := fun p hp => by
    obtain ⟨c, o, us, file, tf, flags, tg, inF, text, tt, e1, r⟩ := t.code p hp
    exact ⟨c, o, us, file, tf, flags, tg, inF, text, tt, k _ _ e1, r⟩
def TabsB (K : PySem.W.Frag) (mg : Str → Option Value) (base : Heap) : Prop := ∀ p ∈ tabsOf K, base.BuiltinsAt mg p.1 ∧ mainGlobals ≠ p.1 ∧ K.lookup p.1 = none
theorem enter {H Pk : Hp} (KX : K.In s.heap) (hns : s.heap.Ns mainGlobals mg) (hb : s.heap.Ns builtinsNs mb) (hbb : ∀ x : Str, x ≠ "__name__" → mb x = bootBuiltins x) (hlim : s.heap.NoLimit) (hg : s.gens = #[]) (T : CtabOk K s.heap)
    (hbm : ∃ (bm : Addr) (ob : Obj), mg "__builtins__" = some (.ref bm) ∧ bm ≠ builtinsNs ∧ s.heap.get? bm = some ob ∧ ob.cls = .type "module" ∧ ob.dict = some builtinsNs ∧ ob.data = .plain)
    (ha : s.heap.get? a = some { cls := .type "list", data := .seq vs.toArray }) (hr : GRoom k callerA) (F : ∀ base : Heap, K.In base → base.Ns mainGlobals mg → TabsB K mg base → FnG P w K mg base k fa fd [x] (spF ⟨K, mg⟩ 1 [] φ))
    (hbind : ∀ (s : Shared) (u : Value), BindsTo s fd ⟨[u], []⟩ [(x, u)]) (hφ : ∃ os, φ [.scr ns] = .ok (.bl true) os) (hS : SqL K Pk a (ns.map V.int)) (hok : HOk P w H s.heap) (und : Under Pk H) (mks : Marks ⟨K, mg⟩ Pk)
    (only : ∀ b u, H b = some u → (b = a ∧ ∃ o ys, u = .frz o (.lst ys)) ∨ (b ∈ (tabsOf K).map (·.1) ∧ u = .tbl #[])) (tbl : ∀ p ∈ tabsOf K, H p.1 = some (.tbl #[])) (free : ∀ o ys, H a = some (.frz o ys) → K.lookup a = none) :
    codeAny (model P w) callerA (.call (.ref fa) ⟨[.ref a], []⟩) (fun r s' => r = .ok (.ret (.bool true)) ∧ OldK s.heap s'.heap ∧ s'.os = s.os ∧ AllBare s'.gens) s := by
  have isT : ∀ b ∈ (tabsOf K).map (·.1), s.heap.get? b = some { cls := .none, data := .fields #[] } := by
    intro b q
    obtain ⟨p, hp, rfl⟩ := List.mem_map.mp q
    exact T.empty p hp
  have away : ∀ {b : Addr} {o : Obj}, s.heap.get? b = some o → b ≠ a → b ∉ (tabsOf K).map (·.1) → (hidT s.heap H).get? b = some o := by
    intro b o q ne nt
    apply hidT_get q
    cases z : H b with
    | none => rfl
    | some u =>
      rcases only b u z with ⟨e, _⟩ | ⟨e, _⟩
      · exact absurd e ne
      · exact absurd e nt
  have spare : ∀ {b : Addr} {o : Obj}, s.heap.get? b = some o → (∀ vs n, o.data ≠ .seq vs n) → o.data ≠ .fields #[] → b ≠ a ∧ b ∉ (tabsOf K).map (·.1) := by
    intro b o q d1 d2
    constructor
    · rintro rfl
      rw [ha] at q
      cases q
      exact d1 _ _ rfl
    · intro z
      rw [isT b z] at q
      cases q
      exact d2 rfl
  have space : ∀ {b : Addr} {m : Str → Option Value}, s.heap.Ns b m → (hidT s.heap H).Ns b m := by
    rintro b m ⟨o, es, ep, q, d, rest⟩
    obtain ⟨n1, n2⟩ := spare q (by intro _ _ z; rw [d] at z; cases z) (by intro z; rw [d] at z; cases z)
    exact ⟨o, es, ep, away q n1 n2, d, rest⟩
  have kin : K.In (hidT s.heap H) := by
    intro b o q
    have nt : b ∉ (tabsOf K).map (·.1) := by
      intro z
      obtain ⟨p, hp, rfl⟩ := List.mem_map.mp z
      rw [T.out p hp] at q
      cases q
    by_cases ne : b = a
    · subst ne
      apply hidT_get (KX _ _ q)
      cases z : H b with
      | none => rfl
      | some u =>
        rcases only b u z with ⟨_, o, ys, rfl⟩ | ⟨e, _⟩
        · rw [free o _ z] at q; cases q
        · exact absurd e nt
    · exact away (KX _ _ q) ne nt
  have md : Mod K mg (hidT s.heap H) := by
    obtain ⟨mc, l1, l2⟩ := hlim
    exact ⟨kin, space hns, ⟨mb, space hb, hbb⟩, ⟨mc, space l1, l2⟩⟩
  have env : Env0 P w K mg (hidT s.heap H) callerA [] s H := by
    refine ⟨rfl, md, fun b o q => of_hidT q, Nat.le_of_eq (hidT_size _ _), trivial, ?_, hok, .of_eq hg⟩
    intro b hb
    cases hb
  have tb : TabsB K mg (hidT s.heap H) := by
    intro p hp
    have e0 := T.empty p hp
    obtain ⟨bm, ob, b1, b2, b3, b4, b5, b6⟩ := hbm
    have nG : bm ≠ mainGlobals := by
      rintro rfl
      obtain ⟨o, es, ep, e, hd, _⟩ := hns
      rw [e] at b3
      cases b3
      rw [hd] at b6
      cases b6
    have nP : bm ≠ p.1 := by
      intro q
      rw [q, e0] at b3
      cases b3
      cases b6
    obtain ⟨n1, n2⟩ := spare b3 (by intro _ _ z; rw [b6] at z; cases z) (by intro z; rw [b6] at z; cases z)
    refine ⟨⟨bm, ob, b1, b2, nG, nP, away b3 n1 n2, b4, b5, b6⟩, ?_, T.out p hp⟩
    intro z
    obtain ⟨o, es, ep, e, hd, _⟩ := hns
    rw [z, e0] at e
    cases e
    cases hd
  have prom : spF ⟨K, mg⟩ 1 [] φ [.ref a] H (fun v _ => v = .bl true) fun _ _ _ => False := by
    obtain ⟨os, hφ⟩ := hφ
    refine ⟨rfl, Pk, [.scr ns], [], und, mks, .cons (A := []) (B := []) (.scr hS) .nil, List.nodup_nil, fun b hb => by simp at hb, ?_⟩
    rw [hφ]
    intro v P' H' B C _ r _ _ _
    cases r
    rfl
  apply codeAny_mono ((F _ kin (space hns) tb).run callerA [] s H ⟨[.ref a], []⟩ [.ref a] [.ref a] _ _ hr env (hbind s (.ref a)) (.cons rfl .nil) prom)
  intro r s' h
  cases r with
  | error e =>
    obtain ⟨_, _, _, _, _, _, _, _, _, _, _, _, z⟩ := h
    exact z.elim
  | ok fl =>
    cases fl with
    | next => exact h.elim
    | brk => exact h.elim
    | cont => exact h.elim
    | ret u =>
      obtain ⟨v, H', os, bare, un, hok', rv, e⟩ := h
      have e : v = .bl true := e
      subst e
      have e : u = Value.bool true := rv
      subst e
      have same : ∀ b o, b ∉ (tabsOf K).map (·.1) → s.heap.get? b = some o → s'.heap.get? b = some o := by
        intro b o nt q
        cases z : H b with
        | none =>
          apply un.keep b o q z
          · intro y; cases y
          · intro y; cases y
        | some u =>
          rcases only b u z with ⟨rfl, ob, ys, rfl⟩ | ⟨e, _⟩
          · have z2 := un.frzs _ _ _ z
            have h1 := (hok _ _ z).1
            have h2 := (hok' _ _ z2).1
            rw [q] at h1
            cases h1
            exact h2
          · exact absurd e nt
      have grown : ∀ p ∈ tabsOf K, ∃ more : Array Value, s'.heap.get? p.1 = some { cls := .none, data := .fields more } := by
        intro p hp
        obtain ⟨more, z⟩ := un.tbls p.1 #[] (tbl p hp)
        exact ⟨_, hok' p.1 _ z⟩
      refine ⟨rfl, ⟨?_, ?_⟩, os, bare⟩
      · intro b o q
        by_cases nt : b ∈ (tabsOf K).map (·.1)
        · obtain ⟨p, hp, rfl⟩ := List.mem_map.mp nt
          obtain ⟨more, hm⟩ := grown p hp
          obtain ⟨c, C⟩ := T.code p hp
          rw [T.empty p hp] at q
          cases q
          refine .inr (.inl ⟨(C.tab (T.empty p hp)).isCodeTable, rfl, #[], more, rfl, ?_⟩)
          rw [Array.empty_append]
          exact hm
        · exact .inl (same b o nt q)
      · intro b o q
        by_cases nt : b ∈ (tabsOf K).map (·.1)
        · obtain ⟨p, hp, rfl⟩ := List.mem_map.mp nt
          obtain ⟨more, hm⟩ := grown p hp
          exact ⟨_, hm⟩
        · exact ⟨o, same b o nt q⟩
theorem enters (KX : K.In s.heap) (hns : s.heap.Ns mainGlobals mg) (hb : s.heap.Ns builtinsNs mb) (hbb : ∀ x : Str, x ≠ "__name__" → mb x = bootBuiltins x) (hlim : s.heap.NoLimit) (hg : s.gens = #[]) (T : CtabOk K s.heap)
    (hbm : ∃ (bm : Addr) (ob : Obj), mg "__builtins__" = some (.ref bm) ∧ bm ≠ builtinsNs ∧ s.heap.get? bm = some ob ∧ ob.cls = .type "module" ∧ ob.dict = some builtinsNs ∧ ob.data = .plain)
    (ha : s.heap.get? a = some { cls := .type "list", data := .seq vs.toArray }) (hi : IntsAre vs ns) (hl : ns.length ≤ sizeLine) (hr : GRoom k callerA) (F : ∀ base : Heap, K.In base → base.Ns mainGlobals mg → TabsB K mg base → FnG P w K mg base k fa fd [x] (spF ⟨K, mg⟩ 1 [] φ))
    (hbind : ∀ (s : Shared) (u : Value), BindsTo s fd ⟨[u], []⟩ [(x, u)]) (hφ : ∃ os, φ [.scr ns] = .ok (.bl true) os) :
    codeAny (model P w) callerA (.call (.ref fa) ⟨[.ref a], []⟩) (fun r s' => r = .ok (.ret (.bool true)) ∧ OldK s.heap s'.heap ∧ s'.os = s.os ∧ AllBare s'.gens) s := by
  have rel := vals_ints hi
  have size := hi.length
  have nat : a ∉ (tabsOf K).map (·.1) := by
    intro z
    obtain ⟨p, hp, e⟩ := List.mem_map.mp z
    have q := T.empty p hp
    rw [e, ha] at q
    cases q
  have lk : ∀ p ∈ tabsOf K, (tabsOf K).lookup p.1 = some p.2 := by
    intro p hp
    cases q : (tabsOf K).lookup p.1 with
    | none =>
      have := List.lookup_eq_none_iff.mp q p hp
      simp at this
    | some y =>
      have hm : (p.1, y) ∈ tabsOf K := look_mem q
      have e := T.one p hp (p.1, y) hm rfl
      rw [e]
  let o : Obj := { cls := .type "list", data := .seq vs.toArray }
  let base : Hp := fun b => if b ∈ (tabsOf K).map (·.1) then some (.tbl #[]) else none
  let baseP : Hp := fun b => ((tabsOf K).lookup b).map mark
  have base_in : ∀ {b}, b ∈ (tabsOf K).map (·.1) → base b = some (.tbl #[]) := fun h => if_pos h
  have base_out : ∀ {b}, b ∉ (tabsOf K).map (·.1) → base b = none := fun h => if_neg h
  have baseP_out : ∀ {b}, b ∉ (tabsOf K).map (·.1) → baseP b = none := by
    intro b h
    show ((tabsOf K).lookup b).map mark = none
    cases q : (tabsOf K).lookup b with
    | none => rfl
    | some y => exact absurd (List.mem_map.mpr ⟨(b, y), look_mem q, rfl⟩) h
  have und0 : ∀ b u, baseP b = some u → ∃ q ps, u = mark q ∧ base b = some (.tbl ps) ∧ TriplesOk ps.toList ∧ ∀ (pos : Pos) (cv : Value), codeAmong pos ps.toList = some cv → False := by
    intro b u z
    have z : ((tabsOf K).lookup b).map mark = some u := z
    cases q : (tabsOf K).lookup b with
    | none => rw [q] at z; cases z
    | some y =>
      rw [q] at z
      cases z
      refine ⟨y, #[], rfl, base_in (List.mem_map.mpr ⟨(b, y), look_mem q, rfl⟩), True.intro, fun pos cv hc => ?_⟩
      have hc : codeAmong pos [] = some cv := hc
      simp [codeAmong] at hc
  have mk0 : ∀ p ∈ tabsOf K, baseP p.1 = some (mark p.2) := by
    intro p hp
    show ((tabsOf K).lookup p.1).map mark = _
    rw [lk p hp]
    rfl
  have inT : ∀ p ∈ tabsOf K, p.1 ∈ (tabsOf K).map (·.1) := fun p hp => List.mem_map.mpr ⟨p, hp, rfl⟩
  have nea : ∀ p ∈ tabsOf K, p.1 ≠ a := fun p hp e => nat (e ▸ inT p hp)
  have isT : ∀ b ∈ (tabsOf K).map (·.1), s.heap.get? b = some { cls := .none, data := .fields #[] } := by
    intro b q
    obtain ⟨p, hp, rfl⟩ := List.mem_map.mp q
    exact T.empty p hp
  cases q : K.lookup a with
  | none =>
    have at_a : upd base a (.frz o (.lst (ns.map V.int))) a = some (.frz o (.lst (ns.map V.int))) := upd_same
    refine enter (H := upd base a (.frz o (.lst (ns.map V.int)))) (Pk := upd baseP a (.frz o (.lst (ns.map V.int)))) KX hns hb hbb hlim hg T hbm ha hr F hbind hφ (.inl (.inr ⟨o, upd_same⟩)) ?_ ?_ ?_ ?_ ?_ ?_
    · intro b u z
      by_cases e : b = a
      · subst e
        rw [upd_same] at z
        cases z
        exact ⟨ha, by rw [List.length_map]; exact hl, vs, _, rel, ha⟩
      · rw [upd_ne e] at z
        by_cases h2 : b ∈ (tabsOf K).map (·.1)
        · rw [base_in h2] at z
          cases z
          exact isT b h2
        · rw [base_out h2] at z
          cases z
    · intro b u z
      by_cases e : b = a
      · subst e
        rw [upd_same] at z ⊢
        exact .inl z
      · rw [upd_ne e] at z ⊢
        obtain ⟨y, ps, e1, e2, e3, e4⟩ := und0 b u z
        exact .inr (.inr ⟨y, ps, e1, e2, e3, fun pos cv hc => (e4 pos cv hc).elim⟩)
    · intro p hp
      rw [upd_ne (nea p hp)]
      exact mk0 p hp
    · intro b u z
      by_cases e : b = a
      · subst e
        rw [upd_same] at z
        cases z
        exact .inl ⟨rfl, _, _, rfl⟩
      · rw [upd_ne e] at z
        by_cases h2 : b ∈ (tabsOf K).map (·.1)
        · rw [base_in h2] at z
          cases z
          exact .inr ⟨h2, rfl⟩
        · rw [base_out h2] at z
          cases z
    · intro p hp
      rw [upd_ne (nea p hp)]
      exact base_in (inT p hp)
    · intro _ _ _
      exact q
  | some ob =>
    have e := KX a ob q
    rw [ha] at e
    cases e
    refine enter (H := base) (Pk := baseP) KX hns hb hbb hlim hg T hbm ha hr F hbind hφ (.inr ⟨_, vs.toArray, _, q, rfl, rfl, rfl, ?_, ?_⟩) ?_ ?_ ?_ ?_ ?_ ?_
    · rw [List.size_toArray, size]; exact hl
    · simpa using rel
    · intro b u z
      by_cases h2 : b ∈ (tabsOf K).map (·.1)
      · rw [base_in h2] at z
        cases z
        exact isT b h2
      · rw [base_out h2] at z
        cases z
    · intro b u z
      obtain ⟨y, ps, e1, e2, e3, e4⟩ := und0 b u z
      exact .inr (.inr ⟨y, ps, e1, e2, e3, fun pos cv hc => (e4 pos cv hc).elim⟩)
    · exact mk0
    · intro b u z
      by_cases h2 : b ∈ (tabsOf K).map (·.1)
      · rw [base_in h2] at z
        cases z
        exact .inr ⟨h2, rfl⟩
      · rw [base_out h2] at z
        cases z
    · exact fun p hp => base_in (inT p hp)
    · intro o' ys z
      rw [base_out nat] at z
      cases z
end
theorem walkG {l : PySem.W.OpenLaw} {n k : Nat} {q : Program} {loose : List Str} {XP : (Str → Option Value) → Heap → Prop} {YP : World → Heap → Prop} {d : DefRec} {x : Str} (hn : l.most = some n) (hn2 : n ≤ sizeLine) (hdf : d.params.defaults = []) (hr : Room k callerA)
    (F : ∀ (w : World) (mg : Str → Option Value) (fa : Addr) (h : Heap), YP w h → h.Ns mainGlobals mg → mg d.name = some (.ref fa) → ∃ (K : PySem.W.Frag) (fd : FuncData) (φ : List D → FR), K.In h ∧ CtabOk K h ∧ (∀ (s : Shared) (u : Value), BindsTo s fd ⟨[u], []⟩ [(x, u)]) ∧
      (∀ ns : List Int, ns.length ≤ n → ∃ os, φ [.scr ns] = .ok (.bl true) os) ∧ ∀ base : Heap, K.In base → base.Ns mainGlobals mg → TabsB K mg base → FnG l.prog w K mg base k fa fd [x] (spF ⟨K, mg⟩ 1 [] φ)) :
    PySem.W.WalkO q loose XP YP l.row.toRowW d [] fun f vs => PySem.call f vs := by
  apply Att.attach_call hn hdf
  intro w s₀ s₁ mg mb fa o pm cd doc a vs ns G Y ho hd hcd hmg hobj hints hlen hg
  obtain ⟨K, fd, φ, KX, TK, hb, hφ, hF⟩ := F w mg fa _ Y G.T.g hmg
  exact enters KX G.T.g G.T.b G.T.builtins G.T.nolimit hg TK G.T.bmain hobj hints (Nat.le_trans hlen hn2) ⟨hr, rfl⟩ hF hb (hφ ns hlen)
end RL
namespace RL
open PySem PySem.Spec PyProof.Rows L2
def keySml : Key → Bool
  | .inl i => sml i
  | .inr x => PyData.strOk x
def repN : Nat → D → Bool
  | _, .non => true
  | _, .bl _ => true
  | _, .int i => sml i
  | _, .str x => PyData.strOk x
  | n + 1, .tup ds => ds.all (repN n)
  | n + 1, .lst _ ds => ds.all (repN n)
  | n + 1, .dct _ ks ds => ks.all keySml && ds.all (repN n)
  | _, _ => false
mutual
def costD : D → Nat
  | .int _ => 1910
  | .str x => 10 * x.length + 2
  | .tup ds => costL ds + 4
  | .lst _ ds => costL ds + 4
  | .dct _ ks ds => costK ks + costL ds + 4
  | _ => 5
def costL : List D → Nat
  | [] => 0
  | d :: ds => costD d + 2 + costL ds
def costK : List Key → Nat
  | [] => 0
  | .inl _ :: ks => 1912 + costK ks
  | .inr x :: ks => 10 * x.length + 4 + costK ks
end
theorem showableAll_of : ∀ {ds : List PyData}, (∀ d ∈ ds, d.showable = true) → PyData.showableAll ds = true
  | [], _ => rfl
  | d :: ds, h => by
    rw [PyData.showableAll, h d List.mem_cons_self, showableAll_of fun e he => h e (List.mem_cons_of_mem _ he)]
    rfl
theorem showableKv_of : ∀ {ks : List Key} {ds : List PyData}, (∀ k ∈ ks, keySml k = true) → (∀ d ∈ ds, d.showable = true) → PyData.showableKv ((ks.map keyPy).zip ds) = true
  | [], _, _, _ => by simp [PyData.showableKv]
  | _ :: _, [], _, _ => by simp [PyData.showableKv]
  | k :: ks, d :: ds, h, h' => by
    have hk : (keyPy k).showable = true := by
      have := h k List.mem_cons_self
      cases k with
      | inl i => simp only [keySml, sml, decide_eq_true_eq] at this; simp only [keyPy, PyData.showable, decide_eq_true_eq]; omega
      | inr x => simp [keyPy, PyData.showable]
    rw [List.map_cons, List.zip_cons_cons, PyData.showableKv, hk, h' d List.mem_cons_self, showableKv_of (fun e he => h e (List.mem_cons_of_mem _ he)) fun e he => h' e (List.mem_cons_of_mem _ he)]
    rfl
theorem depthKv_of {n : Nat} : ∀ {ks : List Key} {ds : List PyData}, (∀ d ∈ ds, d.depth ≤ n) → PyData.depthKv ((ks.map keyPy).zip ds) ≤ n
  | [], _, _ => by simp [PyData.depthKv]
  | _ :: _, [], _ => by simp [PyData.depthKv]
  | k :: ks, d :: ds, h => by
    have h1 := h d List.mem_cons_self
    have h2 := depthKv_of (ks := ks) fun e he => h e (List.mem_cons_of_mem d he)
    have h3 : (keyPy k).depth = 0 := by cases k <;> simp [keyPy, PyData.depth]
    simp only [List.map_cons, List.zip_cons_cons, PyData.depthKv]
    omega
theorem repN_ok : ∀ {n : Nat} {d : D}, repN n d = true → d.py.showable = true ∧ d.py.depth ≤ n + 1
  | n, .non, _ => by simp [D.py, PyData.showable, PyData.depth]
  | n, .bl b, _ => by simp [D.py, PyData.showable, PyData.depth]
  | n, .str b, _ => by simp [D.py, PyData.showable, PyData.depth]
  | n, .int i, h => by
    have h' : sml i = true := by cases n <;> simpa [repN] using h
    simp only [sml, decide_eq_true_eq] at h'
    refine ⟨?_, by simp [D.py, PyData.depth]⟩
    simp only [D.py, PyData.showable, decide_eq_true_eq]; omega
  | 0, .tup ds, h => by simp [repN] at h
  | n + 1, .tup ds, h => by
    have h' : ∀ d ∈ ds, repN n d = true := by simpa [repN] using h
    have q : ∀ d ∈ ds.map D.py, d.showable = true ∧ d.depth ≤ n + 1 := fun d hd => by
      obtain ⟨e, he, rfl⟩ := List.mem_map.mp hd
      exact repN_ok (h' e he)
    simp only [D.py, pyL_eq, PyData.showable, PyData.depth]
    have := depthAll_of fun d hd => (q d hd).2
    exact ⟨showableAll_of fun d hd => (q d hd).1, by omega⟩
  | 0, .lst _ ds, h => by simp [repN] at h
  | n + 1, .lst _ ds, h => by
    have h' : ∀ d ∈ ds, repN n d = true := by simpa [repN] using h
    have q : ∀ d ∈ ds.map D.py, d.showable = true ∧ d.depth ≤ n + 1 := fun d hd => by
      obtain ⟨e, he, rfl⟩ := List.mem_map.mp hd
      exact repN_ok (h' e he)
    simp only [D.py, pyL_eq, PyData.showable, PyData.depth]
    have := depthAll_of fun d hd => (q d hd).2
    exact ⟨showableAll_of fun d hd => (q d hd).1, by omega⟩
  | 0, .dct _ _ ds, h => by simp [repN] at h
  | n + 1, .dct _ ks ds, h => by
    have h' : (∀ k ∈ ks, keySml k = true) ∧ ∀ d ∈ ds, repN n d = true := by simpa [repN] using h
    have q : ∀ d ∈ ds.map D.py, d.showable = true ∧ d.depth ≤ n + 1 := fun d hd => by
      obtain ⟨e, he, rfl⟩ := List.mem_map.mp hd
      exact repN_ok (h'.2 e he)
    simp only [D.py, pyL_eq, PyData.showable, PyData.depth]
    have := depthKv_of (ks := ks) fun d hd => (q d hd).2
    exact ⟨showableKv_of h'.1 fun d hd => (q d hd).1, by omega⟩
  | 0, .obj _ _ _ _, h => by simp [repN] at h
  | n + 1, .obj _ _ _ _, h => by simp [repN] at h
  | 0, .exn _ _ _, h => by simp [repN] at h
  | n + 1, .exn _ _ _, h => by simp [repN] at h
  | 0, .scr _, h => by simp [repN] at h
  | n + 1, .scr _, h => by simp [repN] at h
  | 0, .tux _, h => by simp [repN] at h
  | n + 1, .tux _, h => by simp [repN] at h
theorem joined_le (ts : List Str) : (Str.join ", " ts).length ≤ piled ts := by
  by_cases h : ts = []
  · subst h; decide
  · have := join_length_add ts h
    omega
theorem brackets_le (a b : Str) (ts : List Str) (ha : a.length ≤ 2) (hb : b.length ≤ 2) : (a ++ Str.join ", " ts ++ b).length ≤ piled ts + 4 := by
  have := joined_le ts
  rw [strLen_append, strLen_append]
  omega
theorem strOk_lt {x : Str} (h : PyData.strOk x = true) : ∀ c ∈ x.cps.toList, c < 16 ^ 8 := fun c hc => by
  unfold PyData.strOk at h
  rw [← Array.all_toList] at h
  have := List.all_eq_true.mp h c hc
  have := of_decide_eq_true this
  omega
theorem keyShown_le (k : Key) (h : keySml k = true) : (keyPy k).shown.length + 2 ≤ costK [k] := by
  cases k with
  | inl i =>
    simp only [keySml, sml, decide_eq_true_eq] at h
    have e := int_text_length_le (a := i) (k := 1900) (by decide) h
    simp only [keyPy, PyData.shown, costK]
    rw [PySem.ofString_length]
    omega
  | inr x =>
    have := PySem.StrLaws.reprText_len x (strOk_lt h)
    simp only [keyPy, PyData.shown, costK]
    omega
theorem piledC : ∀ {ds : List D}, (∀ d ∈ ds, d.py.shown.length ≤ costD d) → piled (PyData.shownAll (pyL ds)) ≤ costL ds
  | [], _ => by simp [pyL, PyData.shownAll, piled, costL]
  | d :: ds, h => by
    have h1 := h d List.mem_cons_self
    have h2 := piledC fun e he => h e (List.mem_cons_of_mem d he)
    simp only [pyL, PyData.shownAll, costL, piled_cons]
    omega
theorem piledK : ∀ {ks : List Key} {ds : List D}, (∀ k ∈ ks, keySml k = true) → (∀ d ∈ ds, d.py.shown.length ≤ costD d) → piled (PyData.shownKv ((ks.map keyPy).zip (pyL ds))) ≤ costK ks + costL ds
  | [], _, _, _ => by simp [PyData.shownKv, piled]
  | _ :: _, [], _, _ => by simp [PyData.shownKv, pyL, piled]
  | k :: ks, d :: ds, hk, h => by
    have h1 := h d List.mem_cons_self
    have h2 := piledK (ks := ks) (fun e he => hk e (List.mem_cons_of_mem _ he)) fun e he => h e (List.mem_cons_of_mem d he)
    have h3 := keyShown_le k (hk k List.mem_cons_self)
    have h4 : costK (k :: ks) = costK [k] + costK ks := by cases k <;> simp [costK]
    have h5 : ((": " : String) : Str).length = 2 := by decide
    simp only [pyL, List.map_cons, List.zip_cons_cons, PyData.shownKv, costL, piled_cons]
    rw [strLen_append, strLen_append]
    omega
theorem cost_ok : ∀ {n : Nat} {d : D}, repN n d = true → d.py.shown.length ≤ costD d
  | n, .non, _ => by simp only [D.py, PyData.shown, costD]; decide
  | n, .bl b, _ => by simp only [D.py, PyData.shown, costD]; cases b <;> decide
  | n, .str x, h => by
    have h' : PyData.strOk x = true := by cases n <;> simpa [repN] using h
    exact PySem.StrLaws.reprText_len x (strOk_lt h')
  | n, .int i, h => by
    have h' : sml i = true := by cases n <;> simpa [repN] using h
    have := keyShown_le (.inl i) h'
    simp only [keyPy, costK] at this
    simp only [D.py, costD]
    omega
  | 0, .tup ds, h => by simp [repN] at h
  | n + 1, .tup ds, h => by
    have h' : ∀ d ∈ ds, repN n d = true := by simpa [repN] using h
    have q := piledC fun d hd => cost_ok (h' d hd)
    simp only [D.py, PyData.shown, costD]
    unfold tupleText
    refine Nat.le_trans (brackets_le _ _ _ (by decide) (by split <;> decide)) (by omega)
  | 0, .lst _ ds, h => by simp [repN] at h
  | n + 1, .lst _ ds, h => by
    have h' : ∀ d ∈ ds, repN n d = true := by simpa [repN] using h
    have q := piledC fun d hd => cost_ok (h' d hd)
    simp only [D.py, PyData.shown, costD]
    rw [listText_eq_join]
    exact Nat.le_trans (brackets_le _ _ _ (by decide) (by decide)) (by omega)
  | 0, .dct _ _ ds, h => by simp [repN] at h
  | n + 1, .dct _ ks ds, h => by
    have h' : (∀ k ∈ ks, keySml k = true) ∧ ∀ d ∈ ds, repN n d = true := by simpa [repN] using h
    have q := piledK h'.1 fun d hd => cost_ok (h'.2 d hd)
    simp only [D.py, PyData.shown, costD]
    unfold dictText
    exact Nat.le_trans (brackets_le _ _ _ (by decide) (by decide)) (by omega)
  | 0, .obj _ _ _ _, h => by simp [repN] at h
  | n + 1, .obj _ _ _ _, h => by simp [repN] at h
  | 0, .exn _ _ _, h => by simp [repN] at h
  | n + 1, .exn _ _ _, h => by simp [repN] at h
  | 0, .scr _, h => by simp [repN] at h
  | n + 1, .scr _, h => by simp [repN] at h
  | 0, .tux _, h => by simp [repN] at h
  | n + 1, .tux _, h => by simp [repN] at h
def SysK (K : PySem.W.Frag) : Prop := ∃ o : Obj, K.lookup sysModules = some o ∧ ∀ its n, o.data ≠ .seq its n
theorem SysK.ne {K : PySem.W.Frag} (k : SysK K) {h : Heap} (hk : K.In h) {a : Addr} {o : Obj} {its : Array Value} {n : Nat} (e : h.get? a = some o) (d : o.data = .seq its n) : a ≠ sysModules := fun z => by
  obtain ⟨u, q, hu⟩ := k
  have := hk _ _ q
  rw [z] at e
  rw [e] at this
  cases this
  exact hu _ _ d
section
variable {X : Cx} {pins : List (Addr × Obj)} {σ : Sl} {H P : Hp} {s : Shared}
theorem keys_read {h : Heap} : ∀ {es : List DictEntry} {vs : List (Key × Value)}, Pairs (mixKind X.prog X.w) es vs → ReadsAll h (es.map (·.key)) (vs.map fun p => keyPy p.1) []
  | _, _, .nil => .nil
  | _, _, .cons (e := e) (kv := kv) hk hv t => by
    have r : Reads h e.key (keyPy kv.1) [] := by
      rcases keyIs_shape (k := kv.1) (v := e.key) hk with ⟨i, u, e1, e2⟩ | ⟨x, u, e1, e2⟩
      · rw [e1, e2]; exact .int i u
      · rw [e1, e2]; exact .str x u
    exact .cons (as := []) (bs := []) r (keys_read t)
theorem vals_read : ∀ {es : List DictEntry} {vs : List (Key × Value)}, Pairs (mixKind X.prog X.w) es vs → es.map (·.val) = vs.map (·.2)
  | _, _, .nil => rfl
  | _, _, .cons hk hv t => by rw [List.map_cons, List.map_cons, hv, vals_read t]
theorem kv_split : ∀ {ks : List Key} {xs : List V} {vs : List (Key × Value)}, ks.length = xs.length → KV (ks.zip xs) vs → vs.map (·.1) = ks ∧ Vals xs (vs.map (·.2))
  | [], [], _, _, h => by cases h; exact ⟨rfl, .nil⟩
  | [], _ :: _, _, h, _ => by simp at h
  | _ :: _, [], _, h, _ => by simp at h
  | k :: ks, x :: xs, _, hl, h => by
    cases h with
    | @cons a b l1 l2 r t =>
      obtain ⟨h1, h2⟩ := kv_split (by simpa using hl) t
      refine ⟨?_, .cons r.2 h2⟩
      rw [List.map_cons, h1, ← r.1]
mutual
theorem Rel.reads (sk : SysK X.K) (I : Inv X pins σ H s) (u : Under P H) : ∀ {n : Nat} {v : V} {d : D} {A : List Addr} {w : Value}, Rel (gd X) P H v d A → RelV v w → repN n d = true → ∃ as, Reads s.heap w d.py as ∧ sysModules ∉ as
  | n, _, _, _, _, .non, r, _ => by cases r; exact ⟨_, by rw [D.py]; exact .none, by simp⟩
  | n, _, _, _, _, .bl b, r, _ => by cases r; exact ⟨_, by rw [D.py]; exact .bool b, by simp⟩
  | n, _, _, _, _, .int i, r, _ => by obtain ⟨t, rfl⟩ := r; exact ⟨_, by rw [D.py]; exact .int i t, by simp⟩
  | n, _, _, _, _, .str i, r, _ => by obtain ⟨t, rfl⟩ := r; exact ⟨_, by rw [D.py]; exact .str i t, by simp⟩
  | 0, _, _, _, _, .tup q r, _, h => by simp [repN] at h
  | n + 1, _, _, _, _, .tup q r, e, h => by
    cases e
    obtain ⟨its, rv, ⟨o, ho, hc, m, hd⟩, _⟩ := I.tuple (u.seqT q)
    obtain ⟨as, h1, h2⟩ := RelL.reads sk I u r rv (by simpa [repN] using h)
    exact ⟨as, by rw [D.py]; exact .tuple ho hc hd (by simpa using h1), h2⟩
  | 0, _, _, _, _, .lstF q r, _, h => by simp [repN] at h
  | n + 1, _, _, _, _, .lstF q r, e, h => by
    cases e
    obtain ⟨its, rv, ⟨o, m, ho, hc, _, hd⟩, _⟩ := I.list (u.seqL (SqL.of q))
    obtain ⟨as, h1, h2⟩ := RelL.reads sk I u r rv (by simpa [repN] using h)
    exact ⟨_ :: as, by rw [D.py]; exact .list ho hc hd (by simpa using h1), fun z => (List.mem_cons.mp z).elim (fun e => sk.ne I.kIn ho hd e.symm) h2⟩
  | 0, _, _, _, _, .lstO q r, _, h => by simp [repN] at h
  | n + 1, _, _, _, _, .lstO q r, e, h => by
    cases e
    obtain ⟨its, rv, ⟨o, m, ho, hc, _, hd⟩, _⟩ := I.list (SqL.of (K := X.K) q)
    obtain ⟨as, h1, h2⟩ := RelL.reads sk I u r rv (by simpa [repN] using h)
    exact ⟨_ :: as, by rw [D.py]; exact .list ho hc hd (by simpa using h1), fun z => (List.mem_cons.mp z).elim (fun e => sk.ne I.kIn ho hd e.symm) h2⟩
  | 0, _, _, _, _, .dctF q l r, _, h => by simp [repN] at h
  | n + 1, _, _, _, _, .dctF (a := a) (ks := ks) (vs := xs) (ds := ds) q l r, e, h => by
    cases e
    have h' : ks.all keySml = true ∧ ∀ d ∈ ds, repN n d = true := by simpa [repN] using h
    have hq : Rd H a (.dK (ks.zip xs)) := by
      rcases u _ _ q with z | ⟨ob, _, _, z⟩ | ⟨_, _, z, _⟩
      · exact .inl z
      · exact .inr ⟨ob, z⟩
      · cases z
    obtain ⟨_, lo, vs, kv, o, es, ep, ho, hx, hd, _, hp, _⟩ := dk_rd I.hok hq
    obtain ⟨k1, k2⟩ := kv_split l kv
    obtain ⟨as, h1, h2⟩ := RelL.reads sk I u r k2 h'.2
    have hl : (ks.map keyPy).length = (pyL ds).length := by rw [List.length_map, l, r.length, pyL_eq, List.length_map]
    have q1 : ReadsAll s.heap (es.toList.map (·.key)) (((ks.map keyPy).zip (pyL ds)).map (·.1)) [] := by
      rw [List.map_fst_zip (by omega), ← k1, List.map_map]; exact keys_read hp
    have q2 : ReadsAll s.heap (es.toList.map (·.val)) (((ks.map keyPy).zip (pyL ds)).map (·.2)) as := by
      rw [List.map_snd_zip (by omega), vals_read hp]; exact h1
    refine ⟨[a] ++ as, by rw [D.py]; exact .dict (as := []) ho hx.1 hd q1 q2, ?_⟩
    · simp only [List.append_nil, List.cons_append, List.nil_append, List.mem_cons, not_or]
      exact ⟨fun z => by rw [← z] at lo; simp at lo, h2⟩
  | 0, _, _, _, _, .dctO q l r, _, h => by simp [repN] at h
  | n + 1, _, _, _, _, .dctO (a := a) (ks := ks) (vs := xs) (ds := ds) q l r, e, h => by
    cases e
    have h' : ks.all keySml = true ∧ ∀ d ∈ ds, repN n d = true := by simpa [repN] using h
    obtain ⟨_, lo, vs, kv, o, es, ep, ho, hx, hd, _, hp, _⟩ := dk_rd I.hok (.inl q)
    obtain ⟨k1, k2⟩ := kv_split l kv
    obtain ⟨as, h1, h2⟩ := RelL.reads sk I u r k2 h'.2
    have hl : (ks.map keyPy).length = (pyL ds).length := by rw [List.length_map, l, r.length, pyL_eq, List.length_map]
    have q1 : ReadsAll s.heap (es.toList.map (·.key)) (((ks.map keyPy).zip (pyL ds)).map (·.1)) [] := by
      rw [List.map_fst_zip (by omega), ← k1, List.map_map]; exact keys_read hp
    have q2 : ReadsAll s.heap (es.toList.map (·.val)) (((ks.map keyPy).zip (pyL ds)).map (·.2)) as := by
      rw [List.map_snd_zip (by omega), vals_read hp]; exact h1
    refine ⟨[a] ++ as, by rw [D.py]; exact .dict (as := []) ho hx.1 hd q1 q2, ?_⟩
    · simp only [List.append_nil, List.cons_append, List.nil_append, List.mem_cons, not_or]
      exact ⟨fun z => by rw [← z] at lo; simp at lo, h2⟩
  | n, _, _, _, _, .scr _, _, h => by cases n <;> simp [repN] at h
  | n, _, _, _, _, .tux _ _ _, _, h => by cases n <;> simp [repN] at h
  | n, _, _, _, _, .objF _ _ _ _, _, h => by cases n <;> simp [repN] at h
  | n, _, _, _, _, .objO _ _ _ _, _, h => by cases n <;> simp [repN] at h
  | n, _, _, _, _, .exn _ _ _, _, h => by cases n <;> simp [repN] at h
theorem RelL.reads (sk : SysK X.K) (I : Inv X pins σ H s) (u : Under P H) : ∀ {n : Nat} {vs : List V} {ds : List D} {A : List Addr} {ws : List Value}, RelL (gd X) P H vs ds A → Vals vs ws → (∀ d ∈ ds, repN n d = true) → ∃ as, ReadsAll s.heap ws (pyL ds) as ∧ sysModules ∉ as
  | n, _, _, _, _, .nil, r, _ => by cases r; exact ⟨[], by rw [pyL]; exact .nil, by simp⟩
  | n, _, _, _, _, .cons r t, e, h => by
    cases e with
    | cons e1 e2 =>
      obtain ⟨as, h1, h2⟩ := Rel.reads sk I u r e1 (h _ List.mem_cons_self)
      obtain ⟨bs, h3, h4⟩ := RelL.reads sk I u t e2 fun d hd => h d (List.mem_cons_of_mem _ hd)
      refine ⟨as ++ bs, by rw [pyL]; exact .cons h1 h3, ?_⟩
      simp only [List.mem_append, not_or]
      exact ⟨h2, h4⟩
end
end
def repOk (d : D) : Bool := repN 50 d && decide (costD d ≤ sizeLine)
def fRepr : List D → Option D
  | [d] => if repOk d = true then some (.str d.py.shown) else none
  | _ => none
theorem c_repr {X : Cx} {k : Nat} (hr : GRoom k X.A) (sk : SysK X.K) : CallR X (.builtin "repr") (rC (gd X) fRepr) := by
  intro pins s σ H xs us Q I r ⟨P, ds, B, un, rl, o, h⟩
  cases rl with
  | nil => exact h.elim
  | @cons v d A1 vs ds B1 r1 r2 =>
    cases r2 with
    | cons _ _ => exact h.elim
    | nil =>
      simp only [fRepr] at h
      by_cases c : repOk d = true
      · rw [if_pos c] at h
        simp only [repOk, Bool.and_eq_true, decide_eq_true_eq] at c
        obtain ⟨c1, c3⟩ := c
        obtain ⟨u, rfl, ru⟩ := vals1 r
        obtain ⟨s1, s2⟩ := repN_ok c1
        have hz : d.py.shown.length ≤ sizeLine := Nat.le_trans (cost_ok c1) c3
        have hQ : ∀ h' t tk, (∀ b o, s.heap.get? b = some o → h'.get? b = some o) → EP X pins σ Q (.str d.py.shown t) { s with heap := h', toks := tk } := fun h' t tk hk => ⟨.str _, H, I.kept hk, ⟨t, rfl⟩, post_val un h (.str _)⟩
        have go : ∀ a, u = .ref a → wpAny (model X.prog X.w) X.A (call (.builtin "repr") [u]) (EP X pins σ Q) X.xe s := by
          rintro a rfl
          obtain ⟨as, rd, ns⟩ := Rel.reads sk I un r1 ru c1
          refine repr_of_reads' rd s1 (fun _ => ns) hr.g (by have := hr.r.units; omega) (fun _ _ e => e) hQ hz
        cases r1 with
        | non => cases ru; exact PySem.P.repr_of_none ⟨.str _, H, I.tok _, ⟨_, rfl⟩, by have := post_val un h (.str _); simpa [D.py, PyData.shown] using this⟩
        | bl b => cases ru; exact PySem.P.repr_of_bool ⟨.str _, H, I.tok _, ⟨_, rfl⟩, by have := post_val un h (.str _); cases b <;> simpa [D.py, PyData.shown] using this⟩
        | int i =>
          obtain ⟨t, rfl⟩ := ru
          have hs : i.natAbs.log2 < 1920 := by simpa [D.py, PyData.showable] using s1
          exact PySem.P.repr_of_int hs ⟨.str _, H, I.tok _, ⟨_, rfl⟩, by have := post_val un h (.str _); simpa [D.py, PyData.shown] using this⟩
        | str x =>
          obtain ⟨t, rfl⟩ := ru
          exact PySem.P.repr_of_str ⟨.str _, H, I.tok _, ⟨_, rfl⟩, by have := post_val un h (.str _); simpa [D.py, PyData.shown] using this⟩ (by simpa [D.py, PyData.shown] using hz)
        | _ => exact go _ (by cases ru; rfl)
      · rw [if_neg c] at h; exact h.elim
end RL
namespace RL
open PySem PySem.Spec PyProof.Rows L2
section
variable {X : Cx} {W : WX}
theorem CallR.imp {f : Value} {r r' : List V → Hp → VK → Prop} (h : CallR X f r) (i : ∀ xs H Q, r' xs H Q → r xs H Q) : CallR X f r' := fun pins s σ H xs us Q I rr q => h pins s σ H xs us Q I rr (i _ _ _ q)
theorem MtR.imp {id : String} {r r' : V → List V → Hp → VK → Prop} (h : MtR X id r) (i : ∀ x xs H Q, r' x xs H Q → r x xs H Q) : MtR X id r' := fun pins s σ H x xs v us Q I r1 r2 q => h pins s σ H x xs v us Q I r1 r2 (i _ _ _ _ q)
theorem rC1 {G : Gd} {f : D → Option D} {xs : List V} {H : Hp} {Q : VK} (h : rC G (fun ds => match ds with | [d] => f d | _ => none) xs H Q) :
    ∃ v P d B z, xs = [v] ∧ Under P H ∧ Rel G P H v d B ∧ (∀ b ∈ B, P b = none) ∧ f d = some z ∧ Post G P H Q z := by
  obtain ⟨P, ds, B, un, rl, o, h⟩ := h
  cases rl with
  | nil => exact h.elim
  | @cons v d A1 vs ds B1 r1 r2 =>
    cases r2 with
    | cons _ _ => exact h.elim
    | nil =>
      cases hf : f d with
      | none => simp only [hf] at h
      | some z => simp only [hf] at h; exact ⟨v, P, d, A1, z, rfl, un, r1, fun b hb => o b (List.mem_append_left _ hb), hf, h⟩
theorem rC2 {G : Gd} {f : D → D → Option D} {xs : List V} {H : Hp} {Q : VK} (h : rC G (fun ds => match ds with | [d, e] => f d e | _ => none) xs H Q) :
    ∃ v w P d e B C z, xs = [v, w] ∧ Under P H ∧ Rel G P H v d B ∧ Rel G P H w e C ∧ f d e = some z ∧ Post G P H Q z := by
  obtain ⟨P, ds, B, un, rl, o, h⟩ := h
  cases rl with
  | nil => exact h.elim
  | @cons v d A1 vs ds B1 r1 r2 =>
    cases r2 with
    | nil => exact h.elim
    | @cons w e A2 vs ds B2 r2 r3 =>
      cases r3 with
      | cons _ _ => exact h.elim
      | nil =>
        cases hf : f d e with
        | none => simp only [hf] at h
        | some z => simp only [hf] at h; exact ⟨v, w, P, d, e, A1, A2, z, rfl, un, r1, r2, hf, h⟩
def on1 (f : D → Option D) : List D → Option D := fun ds => match ds with
  | [d] => f d
  | _ => none
def on2 (f : D → D → Option D) : List D → Option D := fun ds => match ds with
  | [d, e] => f d e
  | _ => none
def fLen : D → Option D
  | .lst _ ds => some (.int ds.length)
  | .tup ds => some (.int ds.length)
  | .scr ns => some (.int ns.length)
  | .str z => if z.length ≤ sizeLine then some (.int z.length) else none
  | _ => none
theorem c_len : CallR X (.builtin "len") (rC (gd X) (on1 fLen)) := CallR.imp (CallR.or call_len_seq call_len_str) fun xs H Q h => by
  obtain ⟨v, P, d, B, z, rfl, un, r, o, hf, q⟩ := rC1 h
  cases r with
  | tup q1 r => simp only [fLen, Option.some.injEq] at hf; subst hf; exact .inl ⟨_, _, rfl, .inr (un.seqT q1), by rw [r.length]; exact post_val un q (.int _)⟩
  | lstF q1 r => simp only [fLen, Option.some.injEq] at hf; subst hf; exact .inl ⟨_, _, rfl, .inl (un.seqL (SqL.of q1)), by rw [r.length]; exact post_val un q (.int _)⟩
  | lstO q1 r => simp only [fLen, Option.some.injEq] at hf; subst hf; exact .inl ⟨_, _, rfl, .inl (SqL.of q1), by rw [r.length]; exact post_val un q (.int _)⟩
  | scr q1 => simp only [fLen, Option.some.injEq] at hf; subst hf; exact .inl ⟨_, _, rfl, .inl (un.seqL q1), by rw [List.length_map]; exact post_val un q (.int _)⟩
  | str x =>
    simp only [fLen] at hf
    split at hf
    · rename_i c; cases hf; exact .inr ⟨_, rfl, c, post_val un q (.int _)⟩
    · cases hf
  | _ => simp [fLen] at hf
def fMax2 : D → D → Option D
  | .int i, .int j => some (.int (if j > i then j else i))
  | _, _ => none
def fMin2 : D → D → Option D
  | .int i, .int j => some (.int (if j < i then j else i))
  | _, _ => none
theorem c_max2 (hc : X.calm = true) : CallR X (.builtin "max") (rC (gd X) (on2 fMax2)) := CallR.imp (call_max2 hc) fun xs H Q h => by
  obtain ⟨v, w, P, d, e, B, C, z, rfl, un, r, r', hf, q⟩ := rC2 h
  cases r <;> cases r' <;> simp only [fMax2, fMin2, Option.some.injEq, reduceCtorEq] at hf
  subst hf
  exact ⟨_, _, rfl, post_val un q (.int _)⟩
theorem c_min2 (hc : X.calm = true) : CallR X (.builtin "min") (rC (gd X) (on2 fMin2)) := CallR.imp (call_min2 hc) fun xs H Q h => by
  obtain ⟨v, w, P, d, e, B, C, z, rfl, un, r, r', hf, q⟩ := rC2 h
  cases r <;> cases r' <;> simp only [fMax2, fMin2, Option.some.injEq, reduceCtorEq] at hf
  subst hf
  exact ⟨_, _, rfl, post_val un q (.int _)⟩
def fList : D → Option D
  | .lst _ ds => if cleanL ds = true then some (.lst true ds) else none
  | .tup ds => if cleanL ds = true then some (.lst true ds) else none
  | .scr ns => some (.lst true (ns.map .int))
  | _ => none
theorem c_list : CallR X (.type "list") (rC (gd X) (on1 fList)) := CallR.imp call_list_of fun xs H Q h => by
  obtain ⟨v, P, d, B, z, rfl, un, r, o, hf, q⟩ := rC1 h
  cases r with
  | tup q1 r =>
    simp only [fList] at hf
    split at hf
    · rename_i c; cases hf; exact ⟨_, _, rfl, .inr (un.seqT q1), fun p hp => post_lst un q (r.nil_of c) hp⟩
    · cases hf
  | lstF q1 r =>
    simp only [fList] at hf
    split at hf
    · rename_i c; cases hf; exact ⟨_, _, rfl, .inl (un.seqL (SqL.of q1)), fun p hp => post_lst un q (r.nil_of c) hp⟩
    · cases hf
  | lstO q1 r =>
    simp only [fList] at hf
    split at hf
    · rename_i c; cases hf; exact ⟨_, _, rfl, .inl (SqL.of q1), fun p hp => post_lst un q (r.nil_of c) hp⟩
    · cases hf
  | scr q1 => simp only [fList, Option.some.injEq] at hf; subst hf; exact ⟨_, _, rfl, .inl (un.seqL q1), fun p hp => post_lst un q (ints_rel _) hp⟩
  | _ => simp [fList] at hf
def fTuple : D → Option D
  | .lst _ ds => if cleanL ds = true then some (.tup ds) else none
  | .tup ds => if cleanL ds = true then some (.tup ds) else none
  | _ => none
theorem c_tuple : CallR X (.type "tuple") (rC (gd X) (on1 fTuple)) := CallR.imp call_tuple_of fun xs H Q h => by
  obtain ⟨v, P, d, B, z, rfl, un, r, o, hf, q⟩ := rC1 h
  cases r with
  | tup q1 r =>
    simp only [fTuple] at hf
    split at hf
    · rename_i c; cases hf; exact ⟨_, _, rfl, .inr ⟨un.seqT q1, post_val un q (.tup q1 (r.nil_of c))⟩⟩
    · cases hf
  | lstF q1 r =>
    simp only [fTuple] at hf
    split at hf
    · rename_i c; cases hf; exact ⟨_, _, rfl, .inl ⟨un.seqL (SqL.of q1), fun p hp => post_tup un q (r.nil_of c) hp⟩⟩
    · cases hf
  | lstO q1 r =>
    simp only [fTuple] at hf
    split at hf
    · rename_i c; cases hf; exact ⟨_, _, rfl, .inl ⟨SqL.of q1, fun p hp => post_tup un q (r.nil_of c) hp⟩⟩
    · cases hf
  | _ => simp [fTuple] at hf
def fStr : D → Option D
  | .int i => if sml i = true then some (.str (toString i)) else none
  | .str x => some (.str x)
  | _ => none
theorem c_str : CallR X (.type "str") (rC (gd X) (on1 fStr)) := CallR.imp (CallR.or call_str_int SkE.call_str_str) fun xs H Q h => by
  obtain ⟨v, P, d, B, z, rfl, un, r, o, hf, q⟩ := rC1 h
  cases r with
  | int i =>
    simp only [fStr] at hf
    split at hf
    · rename_i c
      cases hf
      simp only [sml, decide_eq_true_eq] at c
      exact .inl ⟨_, rfl, by omega, post_val un q (.str _)⟩
    · cases hf
  | str x => simp only [fStr, Option.some.injEq] at hf; subst hf; exact .inr ⟨_, rfl, post_val un q (.str _)⟩
  | _ => simp [fStr] at hf
def fInt : D → Option D
  | .int i => some (.int i)
  | .bl b => some (.int (if b then 1 else 0))
  | .str x => if x.length ≤ 640 then (PySem.intText? x).map .int else none
  | _ => none
theorem c_int : CallR X (.type "int") (rC (gd X) (on1 fInt)) := CallR.imp (CallR.or call_int1 call_int_str) fun xs H Q h => by
  obtain ⟨v, P, d, B, z, rfl, un, r, o, hf, q⟩ := rC1 h
  cases r with
  | int i => simp only [fInt, Option.some.injEq] at hf; subst hf; exact .inl (.inl ⟨_, rfl, post_val un q (.int _)⟩)
  | bl b => simp only [fInt, Option.some.injEq] at hf; subst hf; exact .inl (.inr ⟨_, rfl, post_val un q (.int _)⟩)
  | str x =>
    simp only [fInt] at hf
    split at hf
    · rename_i c
      cases hi : PySem.intText? x with
      | none => rw [hi] at hf; cases hf
      | some n =>
        rw [hi] at hf
        cases hf
        exact .inr ⟨_, n, rfl, hi, c, post_val un q (.int _)⟩
    · cases hf
  | _ => simp [fInt] at hf
def blsOf : List D → Option (List Bool)
  | [] => some []
  | .bl b :: ds => (blsOf ds).map (b :: ·)
  | _ => none
theorem bls_rel {G : Gd} {P H : Hp} : ∀ {xs : List V} {ds : List D} {A : List Addr} {bs : List Bool}, RelL G P H xs ds A → blsOf ds = some bs → xs = bs.map V.bl
  | _, _, _, bs, .nil, h => by simp only [blsOf, Option.some.injEq] at h; subst h; rfl
  | _, _, _, bs, .cons (d := d) (ds := ds) r t, h => by
    cases r with
    | bl b =>
      simp only [blsOf] at h
      cases hb : blsOf ds with
      | none => rw [hb] at h; cases h
      | some cs => rw [hb] at h; cases h; rw [List.map_cons, bls_rel t hb]
    | _ => simp [blsOf] at h
def fAll : D → Option D
  | .lst _ ds => (blsOf ds).map fun bs => .bl (bs.all id)
  | _ => none
theorem c_all (hc : X.calm = true) : CallR X (.builtin "all") (rC (gd X) (on1 fAll)) := CallR.imp (cr_all hc) fun xs H Q h => by
  obtain ⟨v, P, d, B, z, rfl, un, r, o, hf, q⟩ := rC1 h
  have go : ∀ {a : Addr} {xs : List V} {ds : List D} {A : List Addr}, SqL X.K H a xs → RelL (gd X) P H xs ds A → (blsOf ds).map (fun bs => D.bl (bs.all id)) = some z → rAll X.K [.ref a] H Q := fun {a xs ds A} q1 r hf => by
    cases hb : blsOf ds with
    | none => rw [hb] at hf; cases hf
    | some bs =>
      rw [hb] at hf
      cases hf
      exact ⟨a, bs, rfl, by rw [← bls_rel r hb]; exact q1, post_val un q (.bl _)⟩
  cases r with
  | lstF q1 r => exact go (un.seqL (SqL.of q1)) r hf
  | lstO q1 r => exact go (SqL.of q1) r hf
  | _ => simp [fAll] at hf
def fDivmod : D → D → Option D
  | .int i, .int j => if 0 < j ∧ j < 1073741824 then some (.tup [.int (i / j), .int (i % j)]) else none
  | _, _ => none
theorem c_divmod : CallR X (.builtin "divmod") (rC (gd X) (on2 fDivmod)) := CallR.imp call_divmod fun xs H Q h => by
  obtain ⟨v, w, P, d, e, B, C, z, rfl, un, r, r', hf, q⟩ := rC2 h
  cases r <;> cases r' <;> simp only [fDivmod, reduceCtorEq] at hf
  split at hf
  · rename_i c
    cases hf
    exact ⟨_, _, rfl, c, fun p hp => post_tup un q (.cons (A := []) (B := []) (.int _) (.cons (A := []) (B := []) (.int _) .nil)) hp⟩
  · cases hf
def tyName : D → Option String
  | .non => some "NoneType"
  | .bl _ => some "bool"
  | .int _ => some "int"
  | .str _ => some "str"
  | .tup _ => some "tuple"
  | .lst _ _ => some "list"
  | .dct _ _ _ => some "dict"
  | _ => none
def fIsTy (T : String) : D → Option D := fun d => (tyName d).bind fun t => (kitB t T).map .bl
theorem ty_of {P H : Hp} {v : V} {d : D} {A : List Addr} {t : String} (un : Under P H) (r : Rel (gd X) P H v d A) (h : tyName d = some t) : TyX X.K H v (.type t) := by
  cases r with
  | non => cases h; exact .base .non
  | bl b => cases h; exact .base (.bl b)
  | int b => cases h; exact .base (.int b)
  | str b => cases h; exact .base (.str b)
  | tup q r =>
    cases h
    rcases un.seqT q with (z | ⟨o, z⟩) | ⟨o, its, n, z, c, _⟩
    · exact .base (.tup z)
    · exact .fTuple z
    · exact .kTuple z c
  | lstF q r =>
    cases h
    rcases un _ _ q with z | ⟨_, _, z, _⟩ | ⟨_, _, z, _⟩
    · exact .base (.lst z)
    · cases z
    · cases z
  | lstO q r => cases h; exact .base (.lst q)
  | dctF q l r =>
    cases h
    rcases un _ _ q with z | ⟨ob, kvs, e, z⟩ | ⟨_, _, z, _⟩
    · exact .base (.dK z)
    · exact .fDict z
    · cases z
  | dctO q l r => cases h; exact .base (.dK q)
  | _ => simp [tyName] at h
theorem e_isTy (T : String) {x : Str} {p p2 pos : Pos} {e : Expr} {S : Env → Res D} (hm : X.mg "isinstance" = none) (hm2 : X.mg x = none) (hv : bootBuiltins x = some (.type T)) (he : BOk X W e S) (hg : Gl X "isinstance" := by rfl) (hg2 : Gl X x := by rfl)
    (hn : x ≠ "__name__" := by decide) (hdb : (x == ("__debug__" : Str)) = false := by decide)
    (hs : starEach [e, .Name x p2] X.env = (false, eval e X.env) :: starEach [.Name x p2] X.env := by rfl) (hpl : (backTo pos (starEach [.Name x p2] X.env)).any (·.1) = false := by rfl) :
    EOk X W (.Call (.Name "isinstance" p) [e, .Name x p2] [] pos) (s1 (fIsTy T) S) :=
  ⟨PE.imp (pe_callB call_isi hg hm (by decide +kernel) (pa_cons he.pe (pa_cons (pe_bltn (v := .ty T) hg2 hm2 hv rfl hn hdb) pa_nil) hs) (by decide) (by decide) hs hpl) fun σ H Q ⟨P, ρ, A, st, h⟩ => ⟨P, ρ, A, st, by
    unfold s1 at h
    cases hsS : S ρ with
    | bad => simp only [hsS, Res.bind] at h
    | exc x => simp only [hsS, Res.bind] at h; exact h
    | ok d =>
      simp only [hsS, Res.bind] at h
      intro v P1 H1 B e1 r o
      cases ht : tyName d with
      | none => simp only [fIsTy, ht, Option.bind, opt] at h
      | some t =>
        cases hk : kitB t T with
        | none => simp only [fIsTy, ht, hk, Option.bind, Option.map, opt] at h
        | some b =>
          simp only [fIsTy, ht, hk, Option.bind, Option.map, opt] at h
          exact ⟨v, .ty T, .type t, .type T, b, rfl, .ty T, ty_of e1.und r ht, kit_ty hk, h _ P1 H1 [] e1 (.bl b) Fresh.nil⟩⟩⟩
inductive JOk (X : Cx) (W : WX) : List Expr → List (Env → Res D) → Prop
  | nil : JOk X W [] []
  | cons {e : Expr} {S : Env → Res D} {es : List Expr} {Ss : List (Env → Res D)} : EOk X W e S → JOk X W es Ss → JOk X W (e :: es) (S :: Ss)
def jRun : List (Env → Res D) → Str → Env → Res D
  | [], acc, _ => .ok (.str acc)
  | S :: Ss, acc, ρ => (S ρ).bind fun d => match d with
    | .str y => if (acc ++ y).length ≤ sizeLine then jRun Ss (acc ++ y) ρ else .bad
    | _ => .bad
end
end RL
namespace RL
open PySem PySem.Spec PyProof.Rows L2
structure DefOk (P : Program) (w : World) (K : PySem.W.Frag) (mg : Str → Option Value) (base : Heap) (x : Str) (k : Nat) (ps : List Str) (φ : List D → FR) : Prop where
  ex : ∃ f fd, FnG P w K mg base k f fd ps (spF ⟨K, mg⟩ ps.length [] φ) ∧ mg x = some (.ref f) ∧ PySem.W.keepIn K (.ref f) = true ∧ Binds K fd ps []
section
variable {P : Program} {w : World} {K : PySem.W.Frag} {mg : Str → Option Value} {base : Heap}
theorem fun_of {x qual : Str} {st : Stmt} {f : Addr} {fd : FuncData} (h : FunD K x qual (defArgs st) (defBody st) (defScope st) [] [] f fd) : Fun K x qual st f fd := by
  obtain ⟨oc, od, dV, kV, doc, pm, an, cdv, ct, osl, e, l, c, dv, _⟩ := h.ex
  have e0 : dV = .none := by
    rcases dv with ⟨_, q⟩ | ⟨q, _⟩
    · exact q
    · exact absurd rfl q
  subst e0
  exact ⟨⟨oc, od, kV, doc, pm, an, cdv, ct, osl, e, l, c⟩, h.kp⟩
theorem DefOk.mk' {x qual : Str} {st : Stmt} {f : Addr} {fd : FuncData} {k : Nat} {ps : List Str} {φ : List D → FR} (F : Fun K x qual st f fd) (g : mg x = some (.ref f)) (h : FnG P w K mg base k f fd ps (spF ⟨K, mg⟩ ps.length [] φ))
    (b : ∀ (kV doc pm : Value) (an : Option Addr) (cdv ct : Value) (us : List Value), us.length = ps.length → bindArgs (PySem.W.fnOf x qual (defArgs st) (defBody st) (defScope st) .none kV doc pm an cdv ct) ⟨us, []⟩ = pure (ps.zip us)) : DefOk P w K mg base x k ps φ :=
  ⟨f, fd, h, g, F.kp, F.binds b⟩
end
section
variable {X : Cx} {W : WX} {j k : Nat} {ps : List Str} {x : Str} {φ : List D → FR} {p pos : Pos} {e : Expr} {es : List Expr}
theorem e_fn {S : Env → Res (List D)} (F : DefOk X.prog X.w X.K X.mg X.base x j ps φ) (hr : GRoom k X.A) (tk : Takes X W) (ha : AOk X W (e :: es) S) (hj : j ≤ k := by decide) (hg : Gl X x := by rfl) (hdb : (x == ("__debug__" : Str)) = false := by decide)
    (he : starEach (e :: es) X.env = (false, eval e X.env) :: starEach es X.env := by rfl) (hpl : (backTo pos (starEach es X.env)).any (·.1) = false := by rfl) : EOk X W (.Call (.Name x p) (e :: es) [] pos) (sCallF ps.length φ S) := by
  obtain ⟨f, fd, h, g, kp, b⟩ := F.ex
  exact e_call h (hr.mono hj) g kp b tk ha hg hdb he hpl
def fNeg : D → Option D
  | .int i => some (.int (-i))
  | _ => none
theorem e_neg {a : Expr} {S : Env → Res D} (ha : BOk X W a S) : EOk X W (.UnaryOp .USub a pos) (s1 fNeg S) := ⟨PE.imp (pe_un un_neg ha.pe) fun σ H Q ⟨P, ρ, A, st, h⟩ => ⟨P, ρ, A, st, by
  unfold s1 at h
  cases hs : S ρ with
  | bad => simp only [hs, Res.bind] at h
  | exc x => simp only [hs, Res.bind] at h; exact h
  | ok d =>
    simp only [hs, Res.bind] at h
    intro v P1 H1 B e1 r o
    cases r with
    | int i => simp only [fNeg, opt] at h; exact ⟨i, rfl, h _ P1 H1 [] e1 (.int _) Fresh.nil⟩
    | _ => simp [fNeg, opt] at h⟩⟩
theorem e_globI {i : Int} (hm : ∃ t, X.mg x = some (.int i t)) (hg : Gl X x := by rfl) (hd : (x == ("__debug__" : Str)) = false := by decide) : EOk X W (.Name x p) (sC (.int i)) := by
  obtain ⟨t, h⟩ := hm
  exact e_val (pe_glob (v := .int i) hg h ⟨t, rfl⟩ hd) fun _ _ => .int i
theorem e_globS {i : Str} (hm : ∃ t, X.mg x = some (.str i t)) (hg : Gl X x := by rfl) (hd : (x == ("__debug__" : Str)) = false := by decide) : EOk X W (.Name x p) (sC (.str i)) := by
  obtain ⟨t, h⟩ := hm
  exact e_val (pe_glob (v := .str i) hg h ⟨t, rfl⟩ hd) fun _ _ => .str i
def sChain (f g : D → D → Option D) (Sa Sb Sc : Env → Res D) : Env → Res D := fun ρ => (Sa ρ).bind fun x => (Sb ρ).bind fun y => (opt (f x y)).bind fun z => (asB z).bind fun k => if k = true then (Sc ρ).bind fun u => opt (g y u) else .ok (.bl false)
theorem chain_imp {f g : D → D → Option D} {Sa Sb Sc : Env → Res D} {r r' : R2} (hf : ∀ x y H Q, rD (gd X) f x y H Q → r x y H Q) (hg : ∀ x y H Q, rD (gd X) g x y H Q → r' x y H Q) {σ : Sl} {H : Hp} {Q : VK} (h : tE (gd X) W (sChain f g Sa Sb Sc) σ H Q) :
    tChain r r' (tBo (gd X) W Sa) (tBo (gd X) W Sb) (tBo (gd X) W Sc) σ H Q := by
  obtain ⟨P, ρ, A, st, h⟩ := h
  refine ⟨P, ρ, A, st, ?_⟩
  unfold sChain at h
  cases ha : Sa ρ with
  | bad => simp only [ha, Res.bind] at h
  | exc x => simp only [ha, Res.bind] at h; exact h
  | ok dx =>
    simp only [ha, Res.bind] at h
    intro v P1 H1 B1 e1 r1 o1
    refine ⟨P1, ρ, A, st.ext e1, ?_⟩
    cases hb : Sb ρ with
    | bad => simp only [hb] at h
    | exc x => simp only [hb] at h; exact PostX.ext h st.und e1
    | ok dy =>
      simp only [hb] at h
      intro v2 P2 H2 B2 e2 r2 o2
      cases hz : f dx dy with
      | none => simp only [hz, opt] at h
      | some dz =>
        simp only [hz, opt] at h
        refine hf _ _ _ _ ⟨P2, dx, dy, B1, B2, e2.und, r1.ext e2 o1, r2, (e2.own r1.at o1).2, o2, ?_⟩
        rw [hz]
        intro v3 P3 H3 B3 e3 r3 f3
        have e13 := (e1.trans st.und e2).trans st.und e3
        cases dz with
        | bl k =>
          cases r3
          refine ⟨k, rfl, ?_⟩
          cases k with
          | false =>
            simp only [asB, Bool.false_eq_true, if_false] at h ⊢
            exact h _ P3 H3 [] e13 (.bl false) Fresh.nil
          | true =>
            simp only [asB, if_true] at h ⊢
            refine ⟨P3, ρ, A, st.ext e13, ?_⟩
            cases hc : Sc ρ with
            | bad => simp only [hc] at h
            | exc x => simp only [hc] at h; exact PostX.ext h st.und e13
            | ok du =>
              simp only [hc] at h
              intro v4 P4 H4 B4 e4 r4 o4
              have r2' := (r2.ext e3 o2).ext e4 (e3.own r2.at o2).2
              refine hg _ _ _ _ ⟨P4, dy, du, B2, B4, e4.und, r2', r4, (e4.own (r2.ext e3 o2).at (e3.own r2.at o2).2).2, o4, ?_⟩
              cases hw : g dy du with
              | none => simp only [hw, opt] at h
              | some d => simp only [hw, opt] at h; exact Post.ext h st.und (e13.trans st.und e4)
        | _ => simp [asB] at h
theorem e_chain {a b c : Expr} {op op' : CmpOp} {f g : D → D → Option D} {Sa Sb Sc : Env → Res D} (ho : OpR X (compareOp op) (rD (gd X) f)) (ho' : OpR X (compareOp op') (rD (gd X) g)) (ha : BOk X W a Sa) (hb : BOk X W b Sb) (hc : BOk X W c Sc)
    (hm : lastMarks [op, op'] [b, c] = false := by with_unfolding_all rfl) : EOk X W (.Compare a [op, op'] [b, c] pos) (sChain f g Sa Sb Sc) :=
  ⟨PE.imp (pe_chain ho ho' ha.pe hb.pe hc.pe hm) fun _ _ _ => chain_imp (fun _ _ _ _ h => h) fun _ _ _ _ h => h⟩
theorem t_chain {a b c : Expr} {op op' : CmpOp} {f g : D → D → Option D} {Sa Sb Sc : Env → Res D} (ho : OpR X (compareOp op) (rD (gd X) f)) (ho' : OpR X (compareOp op') (rD (gd X) g)) (ha : BOk X W a Sa) (hb : BOk X W b Sb) (hc : BOk X W c Sc)
    (hm : lastMarks [op, op'] [b, c] = false := by with_unfolding_all rfl) : TOk X W (.Compare a [op, op'] [b, c] pos) (sTest (sChain f g Sa Sb Sc)) :=
  ⟨PT.imp (pt_chain ho ho' ha.pe hb.pe hc.pe hm) fun _ _ _ h => chain_imp (fun _ _ _ _ h => h) (fun _ _ _ _ h => h) (test_of h)⟩
end
end RL
namespace RL
open PySem PySem.Spec PyProof.Rows L2
section
variable {α β : Type}
@[simp] theorem bind_ok {a : α} {f : α → Res β} : (Res.ok a).bind f = f a := rfl
@[simp] theorem bind_exc {x : D} {f : α → Res β} : (Res.exc x : Res α).bind f = .exc x := rfl
@[simp] theorem bind_bad {f : α → Res β} : (Res.bad : Res α).bind f = .bad := rfl
@[simp] theorem opt_some {a : α} : opt (some a) = .ok a := rfl
@[simp] theorem asB_bl {b : Bool} : asB (.bl b) = .ok b := rfl
@[simp] theorem asI_int {i : Int} : asI (.int i) = .ok i := rfl
@[simp] theorem on1_ap {f : D → Option D} {d : D} : on1 f [d] = f d := rfl
@[simp] theorem on2_ap {f : D → D → Option D} {d e : D} : on2 f [d, e] = f d e := rfl
end
section
variable {ρ : Env}
@[simp] theorem sVarB_ap {i : Nat} {d : D} (h : ρ[i]? = some (some d)) : sVarB i ρ = .ok d := by simp [sVarB, h]
@[simp] theorem sCl_ap {S : Env → Res D} : sCl S ρ = (S ρ).bind fun d => if d.clean = true then .ok d else .bad := rfl
@[simp] theorem sVar_ap {i : Nat} {d : D} (h : ρ[i]? = some (some d)) : sVar i ρ = if d.clean = true then .ok d else .bad := by simp [sVar, h]
@[simp] theorem sC_ap {d : D} : sC d ρ = .ok d := rfl
@[simp] theorem s2_ap {f : D → D → Option D} {Sa Sb : Env → Res D} : s2 f Sa Sb ρ = (Sa ρ).bind fun x => (Sb ρ).bind fun y => opt (f x y) := rfl
@[simp] theorem s1_ap {f : D → Option D} {S : Env → Res D} : s1 f S ρ = (S ρ).bind fun d => opt (f d) := rfl
@[simp] theorem sTest_ap {S : Env → Res D} : sTest S ρ = (S ρ).bind asB := rfl
@[simp] theorem sNot_ap {S : Env → Res Bool} : sNot S ρ = (S ρ).bind fun b => .ok (!b) := rfl
@[simp] theorem sAndT_ap {S T : Env → Res Bool} : sAndT S T ρ = (S ρ).bind fun b => if b = true then T ρ else .ok false := rfl
@[simp] theorem sOrT_ap {S T : Env → Res Bool} : sOrT S T ρ = (S ρ).bind fun b => if b = true then .ok true else T ρ := rfl
@[simp] theorem sIf_ap {C : Env → Res Bool} {Sa Sb : Env → Res D} : sIf C Sa Sb ρ = (C ρ).bind fun k => if k = true then Sa ρ else Sb ρ := rfl
@[simp] theorem sB_ap {S : Env → Res Bool} : sB S ρ = (S ρ).bind fun b => .ok (.bl b) := rfl
@[simp] theorem sNotV_ap {S : Env → Res D} : sNotV S ρ = sB (sNot (sTest S)) ρ := rfl
@[simp] theorem sAnd_ap {Sa Sb : Env → Res D} : sAnd Sa Sb ρ = (Sa ρ).bind fun x => (asB x).bind fun k => if k = true then Sb ρ else .ok (.bl false) := rfl
@[simp] theorem sOr_ap {Sa Sb : Env → Res D} : sOr Sa Sb ρ = (Sa ρ).bind fun x => (asB x).bind fun k => if k = true then .ok (.bl true) else Sb ρ := rfl
@[simp] theorem sNil_ap : sNil ρ = .ok [] := rfl
@[simp] theorem sCons_ap {S : Env → Res D} {T : Env → Res (List D)} : sCons S T ρ = (S ρ).bind fun d => (T ρ).bind fun ds => .ok (d :: ds) := rfl
@[simp] theorem sIx_ap {Sa Sb : Env → Res D} : sIx Sa Sb ρ = (Sa ρ).bind fun x => (Sb ρ).bind fun y => opt (opIx x y) := rfl
@[simp] theorem sPn_ap : sPn ρ = .ok none := rfl
@[simp] theorem sPs_ap {S : Env → Res D} : sPs S ρ = (S ρ).bind fun d => (asI d).bind fun i => .ok (some i) := rfl
@[simp] theorem sSl_ap {S : Env → Res D} {L U : Env → Res (Option Int)} : sSl S L U ρ = (S ρ).bind fun d => (L ρ).bind fun lo => (U ρ).bind fun hi => opt (opSl d lo hi) := rfl
@[simp] theorem sTup_ap {S : Env → Res (List D)} : sTup S ρ = (S ρ).bind fun ds => if ds.length ≤ sizeLine then .ok (.tup ds) else .bad := rfl
@[simp] theorem sLst_ap {S : Env → Res (List D)} : sLst S ρ = (S ρ).bind fun ds => if ds.length ≤ sizeLine then .ok (.lst true ds) else .bad := rfl
@[simp] theorem sCall_ap {f : List D → Option D} {S : Env → Res (List D)} : sCall f S ρ = (S ρ).bind fun ds => opt (f ds) := rfl
@[simp] theorem sSeq_ap {S : Env → Res D} : sSeq S ρ = (S ρ).bind fun d => opt (seqD d) := rfl
@[simp] theorem sI_ap {f : List D → Option (List D)} {S : Env → Res (List D)} : sI f S ρ = (S ρ).bind fun ds => opt (f ds) := rfl
@[simp] theorem sYes_ap : sYes ρ = .ok true := rfl
@[simp] theorem jRun_nil {acc : Str} : jRun [] acc ρ = .ok (.str acc) := rfl
@[simp] theorem jRun_cons {S : Env → Res D} {Ss : List (Env → Res D)} {acc : Str} : jRun (S :: Ss) acc ρ = (S ρ).bind fun d => match d with
    | .str y => if (acc ++ y).length ≤ sizeLine then jRun Ss (acc ++ y) ρ else .bad
    | _ => .bad := rfl
@[simp] theorem sChain_ap {f g : D → D → Option D} {Sa Sb Sc : Env → Res D} : sChain f g Sa Sb Sc ρ = (Sa ρ).bind fun x => (Sb ρ).bind fun y => (opt (f x y)).bind fun z => (asB z).bind fun k => if k = true then (Sc ρ).bind fun u => opt (g y u) else .ok (.bl false) := rfl
def FR.res : FR → Res D
  | .ok d _ => .ok d
  | .exc x _ => .exc x
  | .bad => .bad
@[simp] theorem res_ok {d : D} {os : List D} : (FR.ok d os).res = .ok d := rfl
@[simp] theorem res_exc {d : D} {os : List D} : (FR.exc d os).res = .exc d := rfl
@[simp] theorem sCallF_ap {n : Nat} {φ : List D → FR} {S : Env → Res (List D)} : sCallF n φ S ρ = (S ρ).bind fun ds => if ds.length = n then (φ (frzL ds)).res else .bad := by
  unfold sCallF
  cases S ρ with
  | ok ds => simp only [bind_ok]; split <;> first | rfl | (cases φ (frzL ds) <;> rfl)
  | _ => rfl
@[simp] theorem sNext_ap : sNext ρ = .nx ρ := rfl
@[simp] theorem sBreak_ap : sBreak ρ = .bk ρ := rfl
@[simp] theorem sRetN_ap : sRetN ρ = .rt .non ρ := rfl
def SRes.andThen (r : SRes) (T : Env → SRes) : SRes := match r with
  | .nx ρ' => T ρ'
  | .rt d ρ' => .rt d ρ'
  | .bk ρ' => .bk ρ'
  | .exc x ρ' => .exc x ρ'
  | .bad => .bad
@[simp] theorem andThen_nx {T : Env → SRes} : (SRes.nx ρ).andThen T = T ρ := rfl
@[simp] theorem andThen_rt {T : Env → SRes} {d : D} : (SRes.rt d ρ).andThen T = .rt d ρ := rfl
@[simp] theorem andThen_bk {T : Env → SRes} : (SRes.bk ρ).andThen T = .bk ρ := rfl
@[simp] theorem andThen_exc {T : Env → SRes} {d : D} : (SRes.exc d ρ).andThen T = .exc d ρ := rfl
@[simp] theorem sThen_ap {S T : Env → SRes} : sThen S T ρ = (S ρ).andThen T := by
  unfold sThen SRes.andThen
  cases S ρ <;> rfl
def Res.stm {α : Type} (r : Res α) (ρ : Env) (k : α → SRes) : SRes := match r with
  | .ok a => k a
  | .exc x => .exc x ρ
  | .bad => .bad
@[simp] theorem stm_ok {α : Type} {a : α} {k : α → SRes} : (Res.ok a).stm ρ k = k a := rfl
@[simp] theorem stm_exc {α : Type} {x : D} {k : α → SRes} : (Res.exc x : Res α).stm ρ k = .exc x ρ := rfl
def put (o : Option Env) : SRes := match o with
  | some ρ' => .nx ρ'
  | none => .bad
@[simp] theorem put_some {ρ : Env} : put (some ρ) = .nx ρ := rfl
@[simp] theorem sAsg_ap {t : Tg} {f : Bool} {S : Env → Res D} : sAsg t f S ρ = (S ρ).stm ρ fun d => put (t.set (if f then d.frz else d) ρ) := by
  unfold sAsg Res.stm put
  cases S ρ <;> rfl
@[simp] theorem sPar_ap {i j : Nat} {S : Env → Res (List D)} {d e : D} (h : S ρ = .ok [d, e]) : sPar i j S ρ = put ((Tg.tp [.nm i, .nm j]).set (.tup [d, e]) ρ) := by
  unfold sPar put
  simp only [h]
  all_goals (split <;> rename_i e <;> rw [e])
@[simp] theorem sRet_ap {S : Env → Res D} : sRet S ρ = (S ρ).stm ρ fun d => .rt d ρ := by
  unfold sRet Res.stm
  cases S ρ <;> rfl
@[simp] theorem sExpr_ap {S : Env → Res D} : sExpr S ρ = (S ρ).stm ρ fun _ => .nx ρ := by
  unfold sExpr Res.stm
  cases S ρ <;> rfl
@[simp] theorem sRetV_ap {i : Nat} {d : D} (h : ρ[i]? = some (some d)) : sRetV i ρ = .rt d (ρ.set i none) := by simp [sRetV, h]
@[simp] theorem sFrz_ap {i : Nat} {S : Env → SRes} {d : D} (h : ρ[i]? = some (some d)) : sFrz i S ρ = S (ρ.set i (some d.frz)) := by simp [sFrz, h]
@[simp] theorem sIfS_ap {C : Env → Res Bool} {S T : Env → SRes} : sIfS C S T ρ = (C ρ).stm ρ fun b => if b = true then S ρ else T ρ := by
  unfold sIfS Res.stm
  cases C ρ with
  | ok b => cases b <;> rfl
  | _ => rfl
@[simp] theorem sFor_ap {Si : Env → Res (List D)} {t : Tg} {S : Env → SRes} : sFor Si t S ρ = (Si ρ).stm ρ fun ds => forRun t S ds ρ := by
  unfold sFor Res.stm
  cases Si ρ <;> rfl
def endF (L : List Nat) : SRes → FR
  | .nx ρ => (match outsOf L ρ with | some os => .ok .non os | none => .bad)
  | .rt d ρ => (match outsOf L ρ with | some os => .ok d os | none => .bad)
  | .exc x ρ => (match outsOf L ρ with | some os => .exc x os | none => .bad)
  | _ => .bad
theorem runDef_ap {n : Nat} {L : List Nat} {S : Env → SRes} {ds : List D} : runDef n L S ds = endF L (S (entry n ds)) := by
  unfold runDef endF
  cases S (entry n ds) <;> rfl
@[simp] theorem endF_rt0 {d : D} {ρ : Env} : endF [] (.rt d ρ) = .ok d [] := rfl
@[simp] theorem endF_nx0 {ρ : Env} : endF [] (.nx ρ) = .ok .non [] := rfl
@[simp] theorem endF_ex0 {d : D} {ρ : Env} : endF [] (.exc d ρ) = .exc d [] := rfl
@[simp] theorem tg_nm {i : Nat} {d : D} (h : i < ρ.length) : (Tg.nm i).set d ρ = some (ρ.set i (some d)) := by simp [Tg.set, h]
@[simp] theorem tg_tpL {ts : List Tg} {o : Bool} {ds : List D} : (Tg.tp ts).set (.lst o ds) ρ = tgSetL ts ds ρ := by simp [Tg.set]
@[simp] theorem tg_tp {ts : List Tg} {ds : List D} : (Tg.tp ts).set (.tup ds) ρ = tgSetL ts ds ρ := by simp [Tg.set]
@[simp] theorem tgL_nil : tgSetL [] [] ρ = some ρ := by simp [tgSetL]
@[simp] theorem tgL_cons {t : Tg} {ts : List Tg} {d : D} {ds : List D} : tgSetL (t :: ts) (d :: ds) ρ = (t.set d ρ).bind (tgSetL ts ds) := by simp [tgSetL]
@[simp] theorem forRun_nil {t : Tg} {S : Env → SRes} : forRun t S [] ρ = .nx ρ := rfl
def loopK (r : SRes) (k : Env → SRes) : SRes := match r with
  | .nx ρ => k ρ
  | .bk ρ => .nx ρ
  | .rt d ρ => .rt d ρ
  | .exc x ρ => .exc x ρ
  | .bad => .bad
@[simp] theorem loopK_nx {k : Env → SRes} : loopK (.nx ρ) k = k ρ := rfl
@[simp] theorem loopK_bk {k : Env → SRes} : loopK (.bk ρ) k = .nx ρ := rfl
@[simp] theorem loopK_rt {k : Env → SRes} {d : D} : loopK (.rt d ρ) k = .rt d ρ := rfl
theorem forRun_cons {t : Tg} {S : Env → SRes} {d : D} {ds : List D} : forRun t S (d :: ds) ρ = (put (t.set d ρ)).andThen fun ρ1 => loopK (S ρ1) (forRun t S ds) := by
  rw [forRun]
  cases t.set d ρ with
  | none => rfl
  | some ρ1 =>
    simp only [put_some, SRes.andThen, loopK]
    cases S ρ1 <;> rfl
end
def Bd (k : Nat) (x : Int) : Prop := x.natAbs < 2 ^ k
theorem Bd.mono {j k : Nat} {x : Int} (h : Bd j x) (q : j ≤ k) : Bd k x := Nat.lt_of_lt_of_le h (Nat.pow_le_pow_right (by decide) q)
theorem Bd.add {k : Nat} {x y : Int} (h : Bd k x) (q : Bd k y) : Bd (k + 1) (x + y) := by
  unfold Bd at *
  have := Int.natAbs_add_le x y
  rw [Nat.pow_succ]
  omega
theorem Bd.neg {k : Nat} {x : Int} (h : Bd k x) : Bd k (-x) := by
  unfold Bd at *
  rwa [Int.natAbs_neg]
theorem Bd.sub {k : Nat} {x y : Int} (h : Bd k x) (q : Bd k y) : Bd (k + 1) (x - y) := by
  rw [Int.sub_eq_add_neg]
  exact h.add q.neg
theorem Bd.sml {k : Nat} {x : Int} (h : Bd k x) (q : k ≤ 1900) : sml x = true := by
  have h' := h.mono q
  unfold Bd at h'
  unfold RL.sml
  rw [decide_eq_true_eq]
  by_cases e : x.natAbs = 0
  · rw [e]; decide
  · exact (Nat.log2_lt e).mpr h'
theorem Bd.mulOk {j k : Nat} {x y : Int} (h : Bd j x) (q : Bd k y) (hj : j ≤ 1900) (hk : k ≤ 1900) : mulOk x y = true := by
  unfold RL.mulOk
  rw [h.sml hj, q.sml hk]
  simp
@[simp] theorem opAdd_i {i j : Int} : opAdd (.int i) (.int j) = some (.int (i + j)) := rfl
@[simp] theorem opSub_i {i j : Int} : opSub (.int i) (.int j) = some (.int (i - j)) := rfl
@[simp] theorem opLt_i {i j : Int} : opLt (.int i) (.int j) = some (.bl (decide (i < j))) := rfl
@[simp] theorem opLe_i {i j : Int} : opLe (.int i) (.int j) = some (.bl (decide (i ≤ j))) := rfl
@[simp] theorem opGt_i {i j : Int} : opGt (.int i) (.int j) = some (.bl (decide (j < i))) := rfl
@[simp] theorem opGe_i {i j : Int} : opGe (.int i) (.int j) = some (.bl (decide (j ≤ i))) := rfl
@[simp] theorem fNeg_i {i : Int} : fNeg (.int i) = some (.int (-i)) := rfl
theorem opMul_i {i j : Int} (h : mulOk i j = true) : opMul (.int i) (.int j) = some (.int (i * j)) := by simp [opMul, h]
theorem opFdiv_i {i j : Int} (h : j ≠ 0) (q : sml j = true) : opFdiv (.int i) (.int j) = some (.int (i.fdiv j)) := by simp [opFdiv, h, q]
theorem opMod_i {i j : Int} (h : j ≠ 0) : opMod (.int i) (.int j) = some (.int (i.fmod j)) := by simp [opMod, h]
@[simp] theorem clean_i {i : Int} : (D.int i).clean = true := rfl
@[simp] theorem clean_s {i : Str} : (D.str i).clean = true := rfl
@[simp] theorem clean_b {i : Bool} : (D.bl i).clean = true := rfl
@[simp] theorem clean_n : D.non.clean = true := rfl
@[simp] theorem clean_t {ds : List D} : (D.tup ds).clean = cleanL ds := by simp [D.clean]
@[simp] theorem clean_nil : cleanL [] = true := by simp [cleanL]
@[simp] theorem clean_cons {d : D} {ds : List D} : cleanL (d :: ds) = (d.clean && cleanL ds) := by simp [cleanL]
@[simp] theorem clean_l {ds : List D} : (D.lst false ds).clean = cleanL ds := by simp [D.clean]
@[simp] theorem clean_d {ks : List Key} {ds : List D} : (D.dct false ks ds).clean = cleanL ds := by simp [D.clean]
@[simp] theorem clean_scr {ns : List Int} : (D.scr ns).clean = true := rfl
theorem cleanL_all : ∀ {ds : List D}, cleanL ds = true ↔ ∀ d ∈ ds, d.clean = true
  | [] => by simp
  | d :: ds => by simp [cleanL, cleanL_all (ds := ds)]
@[simp] theorem cleanL_app {ds es : List D} : cleanL (ds ++ es) = (cleanL ds && cleanL es) := by
  induction ds with
  | nil => simp
  | cons d ds ih => simp [cleanL, ih, Bool.and_assoc]
@[simp] theorem cleanL_ints {ns : List Int} : cleanL (ns.map .int) = true := cleanL_all.mpr fun d hd => by
  obtain ⟨i, _, rfl⟩ := List.mem_map.mp hd
  rfl
@[simp] theorem frzL_ints : ∀ {ns : List Int}, frzL (ns.map .int) = ns.map .int
  | [] => by simp [frzL]
  | n :: ns => by simp [frzL, D.frz, frzL_ints (ns := ns)]
@[simp] theorem seqD_l {o : Bool} {ds : List D} (h : cleanL ds = true) : seqD (.lst o ds) = some ds := by simp [seqD, h]
@[simp] theorem seqD_t {ds : List D} (h : cleanL ds = true) : seqD (.tup ds) = some ds := by simp [seqD, h]
@[simp] theorem seqD_scr {ns : List Int} : seqD (.scr ns) = some (ns.map .int) := rfl
@[simp] theorem lstD_l {o : Bool} {ds : List D} (h : cleanL ds = true) : lstD (.lst o ds) = some ds := by simp [lstD, h]
@[simp] theorem lstD_scr {ns : List Int} : lstD (.scr ns) = some (ns.map .int) := rfl
@[simp] theorem fLen_l {o : Bool} {ds : List D} : fLen (.lst o ds) = some (.int ds.length) := rfl
@[simp] theorem fLen_t {ds : List D} : fLen (.tup ds) = some (.int ds.length) := rfl
@[simp] theorem fLen_scr {ns : List Int} : fLen (.scr ns) = some (.int ns.length) := rfl
@[simp] theorem frz_i {i : Int} : (D.int i).frz = .int i := rfl
@[simp] theorem frz_s {i : Str} : (D.str i).frz = .str i := rfl
@[simp] theorem frz_b {i : Bool} : (D.bl i).frz = .bl i := rfl
@[simp] theorem frz_n : D.non.frz = .non := rfl
@[simp] theorem frz_scr {ns : List Int} : (D.scr ns).frz = .scr ns := rfl
@[simp] theorem frz_t {ds : List D} : (D.tup ds).frz = .tup (frzL ds) := by simp [D.frz]
@[simp] theorem frz_l {o : Bool} {ds : List D} : (D.lst o ds).frz = .lst false (frzL ds) := by simp [D.frz]
@[simp] theorem frzL_nil : frzL [] = [] := by simp [frzL]
@[simp] theorem frzL_cons {d : D} {ds : List D} : frzL (d :: ds) = d.frz :: frzL ds := by simp [frzL]
theorem mulOk_l {i j : Int} (h : -(2 ^ 64) < i) (h' : i < 2 ^ 64) : mulOk i j = true := by
  unfold RL.mulOk
  rw [decide_eq_true (p := -(2 ^ 64) < i ∧ i < 2 ^ 64) ⟨h, h'⟩]
  simp
theorem mulOk_r {i j : Int} (h : -(2 ^ 64) < j) (h' : j < 2 ^ 64) : mulOk i j = true := by
  unfold RL.mulOk
  rw [decide_eq_true (p := -(2 ^ 64) < j ∧ j < 2 ^ 64) ⟨h, h'⟩]
  simp
end RL
namespace RL
open PySem PySem.Spec PyProof.Rows L2
theorem atI_nat {α : Type} {xs : List α} (k : Nat) : atI xs (k : Int) = xs[k]? := by
  unfold atI ixN
  by_cases h : k < xs.length
  · have h' : (k : Int) < xs.length := by omega
    have h2 : (0 : Int) ≤ k := by omega
    simp [h', h2]
  · have h' : ¬ (k : Int) < xs.length := by omega
    have h2 : (0 : Int) ≤ k := by omega
    simp [h', h2]
    omega
@[simp] theorem atI_0 {α : Type} {a : α} {l : List α} : atI (a :: l) 0 = some a := atI_nat 0
@[simp] theorem atI_1 {α : Type} {a b : α} {l : List α} : atI (a :: b :: l) 1 = some b := atI_nat 1
@[simp] theorem atI_2 {α : Type} {a b c : α} {l : List α} : atI (a :: b :: c :: l) 2 = some c := atI_nat 2
@[simp] theorem atI_3 {α : Type} {a b c d : α} {l : List α} : atI (a :: b :: c :: d :: l) 3 = some d := atI_nat 3
@[simp] theorem opIx_t {ds : List D} {i : Int} : opIx (.tup ds) (.int i) = atI ds i := rfl
@[simp] theorem opIx_l {o : Bool} {ds : List D} {i : Int} : opIx (.lst o ds) (.int i) = atI ds i := rfl
@[simp] theorem opEq_i {i j : Int} : opEq (.int i) (.int j) = some (.bl (decide (i = j))) := by
  simp [opEq, strs?, D.fit, fitN, D.py, PyData.eqv]
  rfl
@[simp] theorem opNe_i {i j : Int} : opNe (.int i) (.int j) = some (.bl (!decide (i = j))) := by
  simp [opNe, strs?, D.fit, fitN, D.py, PyData.eqv]
  rfl
@[simp] theorem opEq_s {i j : Str} : opEq (.str i) (.str j) = some (.bl (decide (i = j))) := rfl
@[simp] theorem opNe_s {i j : Str} : opNe (.str i) (.str j) = some (.bl (!decide (i = j))) := rfl
theorem eqvAll_same : ∀ {ds : List D}, (∀ d ∈ ds, PyData.eqv d.py d.py = true) → PyData.eqvAll (pyL ds) (pyL ds) = true
  | [], _ => by simp [pyL, PyData.eqvAll]
  | d :: ds, h => by
    simp only [pyL, PyData.eqvAll, h d List.mem_cons_self, Bool.true_and]
    exact eqvAll_same fun e he => h e (List.mem_cons_of_mem _ he)
theorem eqv_same : ∀ {n : Nat} {d : D}, fitN n d = true → PyData.eqv d.py d.py = true
  | n, .non, _ => by simp [D.py, PyData.eqv]
  | n, .bl b, _ => by simp [D.py, PyData.eqv]
  | n, .int b, _ => by simp [D.py, PyData.eqv]
  | n, .str x, h => by simp [D.py, PyData.eqv]
  | 0, .tup ds, h => by simp [fitN] at h
  | n + 1, .tup ds, h => by
    have h' : ∀ d ∈ ds, fitN n d = true := by simpa [fitN] using h
    simp only [D.py, PyData.eqv]
    exact eqvAll_same fun d hd => eqv_same (h' d hd)
  | 0, .lst _ ds, h => by simp [fitN] at h
  | n + 1, .lst _ ds, h => by
    have h' : ∀ d ∈ ds, fitN n d = true := by simpa [fitN] using h
    simp only [D.py, PyData.eqv]
    exact eqvAll_same fun d hd => eqv_same (h' d hd)
  | 0, .dct _ _ _, h => by simp [fitN] at h
  | n + 1, .dct _ _ _, h => by simp [fitN] at h
  | 0, .obj _ _ _ _, h => by simp [fitN] at h
  | n + 1, .obj _ _ _ _, h => by simp [fitN] at h
  | 0, .exn _ _ _, h => by simp [fitN] at h
  | n + 1, .exn _ _ _, h => by simp [fitN] at h
  | 0, .scr _, h => by simp [fitN] at h
  | n + 1, .scr _, h => by simp [fitN] at h
  | 0, .tux _, h => by simp [fitN] at h
  | n + 1, .tux _, h => by simp [fitN] at h
theorem opEq_same {x y : D} (hx : x.fit = true) (hy : y.fit = true) (h : x.py = y.py) : opEq x y = some (.bl true) := by
  unfold opEq
  cases e : strs? x y with
  | none =>
    simp only [hx, hy, and_self, if_true]
    have := eqv_same hx
    rw [← h, this]
  | some b =>
    cases x <;> cases y <;> simp [strs?] at e
    simp [D.py] at h
    simp [← e, h]
theorem fRepr_ok {d : D} (h : repOk d = true) : fRepr [d] = some (.str d.py.shown) := by simp [fRepr, h]
end RL
namespace RL
open PySem PySem.Spec PyProof.Rows L2
structure Plc where
  at_ : D
  set : D → Env
def Foc (G : Gd) (P H : Hp) (σ : Sl) (A : List Addr) (v : V) (p : Plc) : Prop := ∃ B R, Rel G P H v p.at_ B ∧ A.Perm (B ++ R) ∧
  ∀ P' H' e' B', Same P P' → (∀ b ∈ R, H' b = H b) → Rel G P' H' v e' B' → ∃ A', EnvRel G P' H' σ (p.set e') A' ∧ A'.Perm (B' ++ R)
section
variable {G : Gd} {P H P1 H1 : Hp} {σ : Sl} {ρ : Env} {A : List Addr} {v : V} {p : Plc}
theorem Foc.ext (F : Foc G P H σ A v p) (st : StRel G P H σ ρ A) (x : Ext P H P1 H1 []) : Foc G P1 H1 σ A v p := by
  obtain ⟨B, R, r, q, w⟩ := F
  have hB : ∀ b ∈ B, b ∈ A := fun b hb => q.symm.subset (List.mem_append_left _ hb)
  have hR : ∀ b ∈ R, b ∈ A := fun b hb => q.symm.subset (List.mem_append_right _ hb)
  refine ⟨B, R, r.ext x fun b hb => st.off b (hB b hb), q, fun P' H' e' B' s h r' => w P' H' e' B' (x.same.trans s) (fun b hb => (h b hb).trans ?_) r'⟩
  exact (x.own (A := R) (fun b hb => st.env.at b (hR b hb)) fun b hb => st.off b (hR b hb)).1 b hb
theorem RelL.child : ∀ {vs : List V} {ds : List D} {A : List Addr} {j : Nat} {c : D}, RelL G P H vs ds A → ds[j]? = some c → ∃ v B R, vs[j]? = some v ∧ Rel G P H v c B ∧ A.Perm (B ++ R) ∧
    ∀ P' H' c' B', Same P P' → (∀ b ∈ R, H' b = H b) → Rel G P' H' v c' B' → ∃ A', RelL G P' H' vs (ds.set j c') A' ∧ A'.Perm (B' ++ R)
  | _, _, _, _, _, .nil, e => by simp at e
  | _, _, _, 0, _, .cons (v := v) (d := d) (A := A1) (B := B1) r t, e => by
    simp at e
    subst e
    exact ⟨v, A1, B1, rfl, r, .refl _, fun P' H' c' B' s h r' => ⟨_, .cons r' (t.mono s h), .refl _⟩⟩
  | _, _, _, j + 1, _, .cons (A := A1) (B := B1) r t, e => by
    obtain ⟨v, B, R, h1, h2, h3, h4⟩ := RelL.child (j := j) t (by simpa using e)
    refine ⟨v, B, A1 ++ R, by simpa using h1, h2, ?_, fun P' H' c' B' s h r' => ?_⟩
    · exact (h3.append_left A1).trans (List.perm_append_comm_assoc ..)
    · obtain ⟨A', q, p⟩ := h4 P' H' c' B' s (fun b hb => h b (List.mem_append_right _ hb)) r'
      exact ⟨_, .cons (r.mono s fun b hb => h b (List.mem_append_left _ hb)) q, (p.append_left A1).trans (List.perm_append_comm_assoc ..)⟩
end
def ixOf {α : Type} [DecidableEq α] : List α → α → Option Nat
  | [], _ => none
  | k :: ks, j => if k = j then some 0 else (ixOf ks j).map (· + 1)
theorem ixOf_look {β : Type} : ∀ {ks : List Str} {vs : List β} {k : Str} {j : Nat} {v : β}, ixOf ks k = some j → vs[j]? = some v → (ks.zip vs).lookup k = some v
  | [], _, _, _, _, e, _ => by simp [ixOf] at e
  | k :: ks, [], _, _, _, _, e => by simp at e
  | k :: ks, w :: vs, i, j, v, e, h => by
    by_cases hk : k = i
    · simp [ixOf, hk] at e
      subst e
      simp at h
      subst h
      simp [List.lookup, hk]
    · simp only [ixOf, hk, if_false, Option.map_eq_some_iff] at e
      obtain ⟨m, e, rfl⟩ := e
      have := ixOf_look e (by simpa using h)
      rw [List.zip_cons_cons, List.lookup_cons]
      have hb : (i == k) = false := by simpa using fun z => hk z.symm
      rw [hb]
      exact this
def chAt (ds : List D) (j : Option Nat) (up : List D → D) : Option (D × (D → D)) := j.bind fun j => (ds[j]?).map fun c => (c, fun c' => up (ds.set j c'))
def chIx : D → D → Option (D × (D → D))
  | .tup ds, .int i => chAt ds (ixN ds.length i) .tup
  | .lst true ds, .int i => chAt ds (ixN ds.length i) (.lst true)
  | .dct true ks ds, k => (keyOf k).bind fun k => chAt ds (ixOf ks k) (.dct true ks)
  | _, _ => none
def chFld (cs : List Str) (f : Str) : D → Option (D × (D → D))
  | .obj true c ns ds => if c ∈ cs then chAt ds (ixOf ns f) (.obj true c ns) else none
  | _ => none
def Plc.sub (p : Plc) (z : D × (D → D)) : Plc := ⟨z.1, fun c' => p.set (z.2 c')⟩
def tPl (G : Gd) (W : WX) (S : Env → Res Plc) : TE := fun σ H Q => ∃ P ρ A, StRel G P H σ ρ A ∧ match S ρ with
  | .ok p => ∀ v P' H', Ext P H P' H' [] → Foc G P' H' σ A v p → Q v H'
  | .exc x => PostX G P H W σ x
  | .bad => False
structure PlOk (X : Cx) (W : WX) (e : Expr) (S : Env → Res Plc) : Prop where pe : PE X e (tPl (gd X) W S)
section
variable {X : Cx} {W : WX} {e a b : Expr} {pos : Pos} {Sa Sb : Env → Res D} {Pa : Env → Res Plc} {L : List Nat}
def plVar (i : Nat) : Env → Res Plc := fun ρ => match ρ[i]? with
  | some (some d) => .ok ⟨d, fun d' => ρ.set i (some d')⟩
  | _ => .bad
theorem pl_var (i : Nat) {x : Str} {p : Pos} (hN : X.N[i]? = some x := by rfl) (hv : Vis X.env.scope x := by first | exact Or.inl rfl | exact Or.inr (Or.inl rfl) | exact Or.inr (Or.inr rfl)) (hd : (x == ("__debug__" : Str)) = false := by decide)
    (hcd : (x == ("__classdict__" : Str)) = false := by decide) : PlOk X W (.Name x p) (plVar i) := ⟨PE.imp (pe_var hN hv hd hcd) fun σ H Q ⟨P, ρ, A, st, q⟩ => by
  unfold plVar at q
  cases hi : ρ[i]? with
  | none => simp only [hi] at q
  | some o =>
    cases o with
    | none => simp only [hi] at q
    | some d =>
      simp only [hi] at q
      have hl : i < ρ.length := (List.getElem?_eq_some_iff.mp hi).1
      obtain ⟨B, C, pm, qc, hv⟩ := st.env.out hl
      rcases hv with ⟨d', v, h1, h2, r⟩ | ⟨h1, _⟩
      · rw [hi] at h1
        cases h1
        refine ⟨v, h2, q v P H (Ext.refl st.und) ⟨B, C, r, pm, fun P' H' e' B' s h r' => ?_⟩⟩
        obtain ⟨A', p', q'⟩ := (qc.mono s h).put (i := i) r' (by simpa using hl) (by simp [hl])
        rw [List.set_set, EnvRel.set_same h2] at q'
        exact ⟨A', q', p'⟩
      · rw [hi] at h1; cases h1⟩
def plIx (Pa : Env → Res Plc) (Sb : Env → Res D) : Env → Res Plc := fun ρ => (Pa ρ).bind fun p => (Sb ρ).bind fun y => opt ((chIx p.at_ y).map p.sub)
theorem Foc.part {G : Gd} {P H : Hp} {σ : Sl} {A : List Addr} {v : V} {p : Plc} {ds : List D} {vs : List V} {A0 B0 R : List Addr} {j : Nat} {c : D} {up : List D → D} (q : A.Perm ((A0 ++ B0) ++ R))
    (w : ∀ P' H' e' B', Same P P' → (∀ b ∈ R, H' b = H b) → Rel G P' H' v e' B' → ∃ A', EnvRel G P' H' σ (p.set e') A' ∧ A'.Perm (B' ++ R)) (r : RelL G P H vs ds B0) (hc : ds[j]? = some c)
    (mk : ∀ P' H' ds' B', Same P P' → (∀ b ∈ A0, H' b = H b) → RelL G P' H' vs ds' B' → Rel G P' H' v (up ds') (A0 ++ B')) : ∃ u, vs[j]? = some u ∧ Foc G P H σ A u (p.sub (c, fun c' => up (ds.set j c'))) := by
  obtain ⟨u, B, R1, h1, h2, h3, h4⟩ := r.child hc
  refine ⟨u, h1, B, A0 ++ R1 ++ R, h2, ?_, fun P' H' e' B' s h r' => ?_⟩
  · refine q.trans ((((h3.append_left A0).trans (List.perm_append_comm_assoc ..)).append_right R).trans ?_)
    rw [List.append_assoc]
  · obtain ⟨A1, q1, p1⟩ := h4 P' H' e' B' s (fun b hb => h b (by simp [hb])) r'
    obtain ⟨A2, q2, p2⟩ := w P' H' (up (ds.set j e')) (A0 ++ A1) s (fun b hb => h b (by simp [hb])) (mk P' H' _ _ s (fun b hb => h b (by simp [hb])) q1)
    refine ⟨A2, q2, p2.trans ((((p1.append_left A0).trans (List.perm_append_comm_assoc ..)).append_right R).trans ?_)⟩
    rw [List.append_assoc]
theorem Foc.done {G : Gd} {P0 H0 P H : Hp} {σ : Sl} {ρ : Env} {A : List Addr} {p : Plc} (st : StRel G P0 H0 σ ρ A) (x : Ext P0 H0 P H []) {l : Addr} {o' : HO} {e' : D} {B0 R B' : List Addr} (q : A.Perm ((l :: B0) ++ R))
    (w : ∀ P' H' e' B', Same P P' → (∀ b ∈ R, H' b = H b) → Rel G P' H' (.ref l) e' B' → ∃ A', EnvRel G P' H' σ (p.set e') A' ∧ A'.Perm (B' ++ R)) (r' : Rel G P (upd H l o') (.ref l) e' (l :: B')) (nd : (B' ++ R).Nodup) (nl : l ∉ B') (f : ∀ b ∈ B', P b = none ∧ (H0 b = none ∨ b ∈ A)) :
    ∃ A', After G P0 H0 σ A L P (upd H l o') σ (p.set e') A' := by
  have hl : l ∈ A := q.symm.subset (by simp)
  have hR : ∀ b ∈ R, b ∈ A := fun b hb => q.symm.subset (by simp [hb])
  have nR : l ∉ R := fun z => by
    have n := q.nodup_iff.mp st.nd
    exact (List.nodup_cons.mp n).1 (List.mem_append_right _ z)
  have off : ∀ b ∈ A, P b = none := (x.own st.env.at st.off).2
  obtain ⟨A', q1, p1⟩ := w P (upd H l o') e' (l :: B') (Same.refl P) (fun b hb => upd_ne fun z => nR (z ▸ hb)) r'
  have unl : ∀ o u, H0 l ≠ some (.frz o u) := st.env.unl l hl
  have unl' : ∀ o u, H l ≠ some (.frz o u) := fun o u z => by
    obtain ⟨o1, h1⟩ := st.env.at l hl
    have h2 := x.keep l o1 h1 (st.off l hl) (by simp)
    rw [h2] at z
    cases z
    exact unl _ _ h1
  refine ⟨A', ⟨x.same, fun b u hb => ?_, fun b o h1 h2 h3 => ?_, fun b o u h1 => ?_, fun b o hb => ?_⟩, ⟨fun b u hb => ?_, q1, ?_, fun b hb => ?_, st.mks.mono x.same⟩, fun b hb => ?_, rfl, fun _ _ => rfl⟩
  · have : b ≠ l := fun z => by rw [z, off l hl] at hb; cases hb
    rw [upd_ne this]; exact x.und b u hb
  · have : b ≠ l := fun z => h3 (z ▸ hl)
    rw [upd_ne this]; exact x.keep b o h1 h2 (by simp)
  · have : b ≠ l := fun z => unl o u (z ▸ h1)
    rw [upd_ne this]; exact x.lck b o u h1
  · rcases x.new b o hb with z | z | z
    · exact .inl z
    · exact .inr (.inl z)
    · simp at z
  · have : b ≠ l := fun z => by rw [z, off l hl] at hb; cases hb
    rw [upd_ne this]; exact x.und b u hb
  · refine p1.nodup_iff.mpr ?_
    rw [List.cons_append]
    refine List.nodup_cons.mpr ⟨fun z => ?_, nd⟩
    rcases List.mem_append.mp z with z | z
    · exact nl z
    · exact nR z
  · rcases List.mem_append.mp (p1.subset hb) with z | z
    · rcases List.mem_cons.mp z with rfl | z
      · exact off _ hl
      · exact (f b z).1
    · exact off b (hR b z)
  · rcases List.mem_append.mp (p1.subset hb) with z | z
    · rcases List.mem_cons.mp z with rfl | z
      · exact .inr hl
      · exact (f b z).2
    · exact .inr (hR b z)
def rMut (G : Gd) (f : D → List D → Option D) : V → List V → Hp → VK → Prop := fun x xs H Q => ∃ P e Be ds Bs, Under P H ∧ Rel G P H x e Be ∧ RelL G P H xs ds Bs ∧ (Be ++ Bs).Nodup ∧ (∀ b ∈ Be ++ Bs, P b = none) ∧ match f e ds with
  | some e' => ∀ l o' v B', x = .ref l → l ∈ Be → l ∉ B' → B'.Nodup → (∀ b ∈ B', b ∈ Be ++ Bs) → Rel G P (upd H l o') x e' (l :: B') → Q v (upd H l o')
  | none => False
def isLstO : D → Bool
  | .lst true _ => true
  | _ => false
def sMut (f : D → List D → Option D) (Pl : Env → Res Plc) (Sa : Env → Res (List D)) : Env → SRes := fun ρ => match Pl ρ with
  | .ok p => if isLstO p.at_ = true then (match Sa ρ with
    | .ok ds => (match f p.at_ ds with
      | some e' => .nx (p.set e')
      | none => .bad)
    | .exc x => .exc x ρ
    | .bad => .bad) else .bad
  | .exc x => .exc x ρ
  | .bad => .bad
theorem mut_imp {f : D → List D → Option D} {Pl : Env → Res Plc} {Sa : Env → Res (List D)} {D : Ends} {σ : Sl} {H : Hp} (h : tS (gd X) W L (sMut f Pl Sa) D σ H) :
    tPl (gd X) W Pl σ H fun x H1 => tyV X.K "list" x H1 ∧ tL (gd X) W Sa σ H1 fun xs H2 => rMut (gd X) f x xs H2 fun _ H3 => D.nx σ H3 := by
  obtain ⟨P, ρ, A, st, h⟩ := h
  refine ⟨P, ρ, A, st, ?_⟩
  unfold sMut at h
  cases hp : Pl ρ with
  | bad => simp only [hp] at h
  | exc x => simp only [hp] at h; exact PostX.stmt st h
  | ok p =>
    simp only [hp] at h
    intro v P1 H1 e1 F
    by_cases hl : isLstO p.at_ = true
    · rw [if_pos hl] at h
      refine ⟨?_, P1, ρ, A, st.ext e1, ?_⟩
      · obtain ⟨B, R, r, q, w⟩ := F
        generalize hpa : p.at_ = e at hl r
        cases r with
        | lstO hH rl => exact .inl ⟨rfl, _, SqL.of hH⟩
        | _ => simp [isLstO] at hl
      · cases hs : Sa ρ with
        | bad => simp only [hs] at h
        | exc x => simp only [hs] at h; exact PostX.ext (PostX.stmt st h) st.und e1
        | ok ds =>
          simp only [hs] at h
          intro vs P2 H2 Bs e2 rs fs
          obtain ⟨B, R, r, q, w⟩ := F.ext (st.ext e1) e2
          have st2 := (st.ext e1).ext e2
          have e12 := e1.trans st.und e2
          have hBA : ∀ b ∈ B, b ∈ A := fun b hb => q.symm.subset (List.mem_append_left _ hb)
          have hRA : ∀ b ∈ R, b ∈ A := fun b hb => q.symm.subset (List.mem_append_right _ hb)
          have fsA : ∀ b ∈ Bs, b ∉ A := fun b hb z => by
            obtain ⟨o, ho⟩ := (st.ext e1).env.at b z
            rw [(fs.2 b hb).1] at ho; cases ho
          obtain ⟨n1, n2, n3⟩ := List.nodup_append.mp (q.nodup_iff.mp st.nd)
          refine ⟨P2, p.at_, B, ds, Bs, e2.und, r, rs, List.nodup_append.mpr ⟨n1, fs.1, fun a ha b hb z => fsA b hb (z ▸ hBA a ha)⟩, fun b hb => ?_, ?_⟩
          · rcases List.mem_append.mp hb with z | z
            · exact st2.off b (hBA b z)
            · exact (fs.2 b z).2
          · cases hf : f p.at_ ds with
            | none => simp only [hf] at h
            | some e' =>
              simp only [hf] at h
              intro l o' v' B' hv hlB hlB' nB' sub r'
              subst hv
              obtain ⟨B0, hB0⟩ : ∃ B0, B.Perm (l :: B0) := ⟨_, List.perm_cons_erase hlB⟩
              have nd2 : (B' ++ R).Nodup := List.nodup_append.mpr ⟨nB', n2, fun a ha b hb z => by
                rcases List.mem_append.mp (sub a ha) with y | y
                · exact n3 a y b hb z
                · exact fsA a y (z ▸ hRA b hb)⟩
              have f2 : ∀ b ∈ B', P2 b = none ∧ (H b = none ∨ b ∈ A) := fun b hb => by
                rcases List.mem_append.mp (sub b hb) with y | y
                · exact ⟨st2.off b (hBA b y), .inr (hBA b y)⟩
                · exact ⟨(fs.2 b y).2, .inl (e1.free st.und (fs.2 b y).1)⟩
              obtain ⟨A', a⟩ := Foc.done (L := L) (p := p) (B0 := B0) st e12 (q.trans (hB0.append_right R)) w r' nd2 hlB' f2
              exact h σ P2 (upd H2 l o') A' a
    · rw [if_neg hl] at h; exact h.elim
theorem s_mut {o : Expr} {name : Str} {id : String} {apos cpos : Pos} {es : List Expr} {f : D → List D → Option D} {Pl : Env → Res Plc} {Sa : Env → Res (List D)} (slot : Slot "list" name id) (hty : typeOf (.builtin id) = pure (.type "method_descriptor"))
    (hm : MtR X id (rMut (gd X) f)) (ho : PlOk X W o Pl) (ha : AOk X W (e :: es) Sa) (hbase : attributeBase o name X.env (eval o X.env) = eval o X.env := by rfl)
    (hfew : ((backTo cpos (starEach (e :: es) X.env)).all (fun x => !x.1) && (backToKw cpos (keywordEach [] X.env)).all (fun x => x.1.isSome)
      && decide ((e :: es).length + ([] : List Keyword).length + (if ([] : List Keyword).isEmpty then 0 else 1) < 30)) = true := by rfl)
    (hline : (apos.endLine == cpos.line) = true := by rfl) (hs : starEach (e :: es) X.env = (false, eval e X.env) :: starEach es X.env := by rfl) (hplain : (backTo cpos (starEach es X.env)).any (·.1) = false := by rfl)
    (hsw : swapsWith (.Call (.Attribute o name apos) (e :: es) [] cpos) none pos.line X.env = pure false := by rfl) : SOk X W L (.Expr (.Call (.Attribute o name apos) (e :: es) [] cpos) pos) (sMut f Pl Sa) :=
  ⟨PS.imp (ps_expr (pe_bm PySem.F.plainAttrs_list slot hty hm ho.pe ha.pa hbase hfew hline hs hplain) hsw) fun D σ H h => mut_imp h⟩
def mAppend : D → List D → Option D
  | .lst true ds, [d] => if ds.length < sizeLine then some (.lst true (ds ++ [d])) else none
  | _, _ => none
theorem rMut1 {G : Gd} {f : D → List D → Option D} {x : V} {xs : List V} {H : Hp} {Q : VK} (h : rMut G f x xs H Q) (hl : ∀ e ds e', f e ds = some e' → isLstO e = true) :
    ∃ P l vs es B0 ds Bs e', x = .ref l ∧ Under P H ∧ H l = some (.lst vs) ∧ RelL G P H vs es B0 ∧ RelL G P H xs ds Bs ∧ l ∉ B0 ∧ l ∉ Bs ∧ (B0 ++ Bs).Nodup ∧ f (.lst true es) ds = some e' ∧
      ∀ vs' es' B' v, e' = .lst true es' → B'.Nodup → (∀ b ∈ B', b ∈ B0 ++ Bs) → RelL G P H vs' es' B' → Q v (upd H l (.lst vs')) := by
  obtain ⟨P, e, Be, ds, Bs, un, r, rs, nd, off, h⟩ := h
  cases hf : f e ds with
  | none => rw [hf] at h; exact h.elim
  | some e' =>
    rw [hf] at h
    have := hl _ _ _ hf
    cases r with
    | @lstO l vs es B0 hH rl =>
      obtain ⟨n1, n2, n3⟩ := List.nodup_append.mp nd
      obtain ⟨m1, m2⟩ := List.nodup_cons.mp n1
      have lb : l ∉ Bs := fun z => n3 l List.mem_cons_self l z rfl
      refine ⟨P, l, vs, es, B0, ds, Bs, e', rfl, un, hH, rl, rs, m1, lb, List.nodup_append.mpr ⟨m2, n2, fun a ha b hb => n3 a (List.mem_cons_of_mem _ ha) b hb⟩, hf, fun vs' es' B' v he nB sub r' => ?_⟩
      have nl : l ∉ B' := fun z => (List.mem_append.mp (sub l z)).elim m1 lb
      refine h l _ v B' rfl List.mem_cons_self nl nB (fun b hb => ?_) ?_
      · rcases List.mem_append.mp (sub b hb) with z | z
        · exact List.mem_append_left _ (List.mem_cons_of_mem _ z)
        · exact List.mem_append_right _ z
      · rw [he]
        exact .lstO upd_same (r'.mono (Same.refl P) fun b hb => upd_ne fun z => nl (z ▸ hb))
    | _ => simp [isLstO] at this
theorem m_append : MtR X "list.append" (rMut (gd X) mAppend) := MtR.imp mt_append fun x xs H Q h => by
  obtain ⟨P, l, vs, es, B0, ds, Bs, e', rfl, un, hH, rl, rs, n1, n2, nd, hf, q⟩ := rMut1 h fun e ds e' h => by
    unfold mAppend at h; split at h <;> first | rfl | cases h
  cases rs with
  | nil => simp [mAppend] at hf
  | @cons v d B1 vs1 ds1 B2 r1 r2 =>
    cases r2 with
    | cons _ _ => simp [mAppend] at hf
    | nil =>
      simp only [mAppend] at hf
      split at hf
      · rename_i c
        cases hf
        rw [List.append_nil] at nd q
        exact ⟨l, vs, v, rfl, rfl, hH, by rw [rl.length]; exact c, q _ _ (B0 ++ B1) _ rfl nd (fun b hb => hb) (rl.snoc r1)⟩
      · cases hf
theorem Under.lst {P H : Hp} (u : Under P H) {a : Addr} {xs : List V} (h : P a = some (.lst xs)) : H a = some (.lst xs) := by
  rcases u _ _ h with z | ⟨_, _, z, _⟩ | ⟨_, _, z, _⟩
  · exact z
  · cases z
  · cases z
end
end RL
namespace RL
open PySem PySem.Spec PyProof.Rows L2
structure FldOk (K : PySem.W.Frag) (mg : Str → Option Value) (f : Str) (cs : List Str) : Prop where
  ex : ∀ c ∈ cs, ∃ C, mg c = some (.ref C) ∧ Cls K C ∧ NoAttr K C f
structure MthOk (P : Program) (w : World) (K : PySem.W.Frag) (mg : Str → Option Value) (base : Heap) (c m : Str) (k : Nat) (ps : List Str) (L : List Nat) (φ : List D → FR) : Prop where
  ex : ∃ f fd C, FnG P w K mg base k f fd ps (spF ⟨K, mg⟩ ps.length L φ) ∧ Binds K fd ps [] ∧ mg c = some (.ref C) ∧ Cls K C ∧ Meth K C m f
structure MkOk (P : Program) (w : World) (K : PySem.W.Frag) (mg : Str → Option Value) (base : Heap) (c : Str) (k : Nat) (ps : List Str) (φ : List D → FR) : Prop where
  ex : ∃ f fd C, FnG P w K mg base k f fd ps (spF ⟨K, mg⟩ ps.length [0] φ) ∧ Binds K fd ps [] ∧ mg c = some (.ref C) ∧ Mk K C f
section
variable {X : Cx} {W : WX} {e a b o : Expr} {es : List Expr} {pos apos : Pos} {Sa Sb So : Env → Res D} {Ss : Env → Res (List D)} {Pa : Env → Res Plc} {L : List Nat} {f m c : Str} {cs : List Str}
def getF (cs : List Str) (f : Str) : D → Option D
  | .obj _ c ns ds => if c ∈ cs then (ixOf ns f).bind fun j => ds[j]? else none
  | _ => none
def sFld (cs : List Str) (f : Str) (S : Env → Res D) : Env → Res D := fun ρ => (S ρ).bind fun d => opt (getF cs f d)
theorem Under.ins {P H : Hp} (u : Under P H) {a C dx : Addr} {fs : List (Str × V)} (h : P a = some (.ins C dx fs)) : H a = some (.ins C dx fs) := by
  rcases u _ _ h with z | ⟨_, _, z, _⟩ | ⟨_, _, z, _⟩
  · exact z
  · cases z
  · cases z
theorem obj_of {G : Gd} {P H : Hp} {v : V} {o : Bool} {ns : List Str} {ds : List D} {B : List Addr} (u : Under P H) (r : Rel G P H v (.obj o c ns ds) B) : ∃ a C dx vs B0, v = .ref a ∧ G.mg c = some (.ref C) ∧ H a = some (.ins C dx (ns.zip vs)) ∧ ns.length = vs.length ∧ RelL G P H vs ds B0 ∧ ∀ b ∈ B0, b ∈ B := by
  cases r with
  | objF hc q l r => exact ⟨_, _, _, _, _, rfl, hc, u.ins q, l, r, fun b hb => hb⟩
  | objO hc q l r => exact ⟨_, _, _, _, _, rfl, hc, q, l, r, fun b hb => List.mem_cons_of_mem _ hb⟩
theorem b_fld (hf : FldOk X.K X.mg f cs) (ha : BOk X W a Sa) (hb : attributeBase a f X.env (eval a X.env) = eval a X.env := by rfl) : BOk X W (.Attribute a f pos) (sFld cs f Sa) :=
  ⟨PE.imp (pe_fld ha.pe hb) fun σ H Q ⟨P, ρ, A, st, h⟩ => ⟨P, ρ, A, st, by
    unfold sFld at h
    cases hs : Sa ρ with
    | bad => simp only [hs, Res.bind] at h
    | exc x => simp only [hs, Res.bind] at h; exact h
    | ok d =>
      simp only [hs, Res.bind] at h
      intro v P1 H1 B e1 r off
      cases hg : getF cs f d with
      | none => simp only [hg, opt] at h
      | some z =>
        simp only [hg, opt] at h
        cases d with
        | obj ob c ns ds =>
          simp only [getF] at hg
          split at hg
          · rename_i hc
            obtain ⟨a, C, dx, vs, B0, rfl, mg, hH, hl, rl, sub⟩ := obj_of e1.und r
            obtain ⟨C', mg', cl, na⟩ := hf.ex _ hc
            have : C' = C := by
              have := mg.symm.trans mg'
              cases this; rfl
            subst this
            cases hj : ixOf ns f with
            | none => rw [hj] at hg; cases hg
            | some j =>
              rw [hj] at hg
              obtain ⟨w, B1, h1, h2, h3⟩ := rl.get hg
              exact ⟨a, C', dx, _, w, rfl, hH, cl, na, ixOf_look hj h1, h w P1 H1 B1 e1 h2 fun b hb => off b (sub b (h3 b hb))⟩
          · cases hg
        | _ => simp [getF] at hg⟩⟩
def plFld (cs : List Str) (f : Str) (Pa : Env → Res Plc) : Env → Res Plc := fun ρ => (Pa ρ).bind fun p => opt ((chFld cs f p.at_).map p.sub)
def putFN (f : Str) : List Str → List Str
  | [] => [f]
  | g :: ns => if g = f then g :: ns else g :: putFN f ns
def putFD {α : Type} (f : Str) (d : α) : List Str → List α → List α
  | g :: ns, x :: ds => if g = f then d :: ds else x :: putFD f d ns ds
  | _, _ => [d]
theorem putF_zip {f : Str} {v : V} : ∀ {ns : List Str} {vs : List V}, ns.length = vs.length → putF f v (ns.zip vs) = (putFN f ns).zip (putFD f v ns vs) ∧ (putFN f ns).length = (putFD f v ns vs).length
  | [], [], _ => ⟨rfl, rfl⟩
  | [], _ :: _, h => by simp at h
  | _ :: _, [], h => by simp at h
  | g :: ns, x :: vs, h => by
    have ih := putF_zip (f := f) (v := v) (ns := ns) (vs := vs) (by simpa using h)
    simp only [List.zip_cons_cons, putF, putFN, putFD]
    by_cases e : g = f
    · simp only [e, if_true, List.zip_cons_cons, List.length_cons]
      exact ⟨trivial, by simpa using h⟩
    · simp only [e, if_false, List.zip_cons_cons, List.length_cons, ih.1, ih.2]
      exact ⟨trivial, trivial⟩
theorem RelL.putF {G : Gd} {P H : Hp} {f : Str} {v : V} {d : D} {Bv : List Addr} (r : Rel G P H v d Bv) : ∀ {ns : List Str} {vs : List V} {ds : List D} {B : List Addr}, RelL G P H vs ds B → ns.length = vs.length → ∃ B1, RelL G P H (putFD f v ns vs) (putFD f d ns ds) (B1) ∧ (∃ R, B1.Perm (Bv ++ R) ∧ R.Sublist B)
  | [], _, _, _, .nil, _ => ⟨Bv ++ [], .cons r .nil, [], .refl _, List.Sublist.refl _⟩
  | _ :: _, _, _, _, .nil, h => by simp at h
  | [], _, _, _, .cons _ _, h => by simp at h
  | g :: ns, _, _, _, .cons (A := A1) (B := B1) r1 t, h => by
    simp only [putFD]
    by_cases e : g = f
    · simp only [e, if_true]
      exact ⟨_, .cons r t, B1, .refl _, List.sublist_append_right _ _⟩
    · simp only [e, if_false]
      obtain ⟨B2, q, R, p, s⟩ := RelL.putF (f := f) r (ns := ns) t (by simpa using h)
      exact ⟨_, .cons r1 q, A1 ++ R, (p.append_left A1).trans (List.perm_append_comm_assoc ..), List.Sublist.append_left s A1⟩
def setF (cs : List Str) (f : Str) (d : D) : D → Option D
  | .obj true c ns ds => if c ∈ cs ∧ ns.length < 1000 then some (.obj true c (putFN f ns) (putFD f d ns ds)) else none
  | _ => none
def sSetF (cs : List Str) (f : Str) (fz : Bool) (Pl : Env → Res Plc) (S : Env → Res D) : Env → SRes := fun ρ => match S ρ with
  | .ok d => (match Pl ρ with
    | .ok p => (match setF cs f (if fz then d.frz else d) p.at_ with
      | some d' => .nx (p.set d')
      | none => .bad)
    | .exc x => .exc x ρ
    | .bad => .bad)
  | .exc x => .exc x ρ
  | .bad => .bad
theorem fz_of {G : Gd} {P H P1 H1 : Hp} {B : List Addr} {d : D} {v : V} (u : Under P H) (e : Ext P H P1 H1 []) (r : Rel G P1 H1 v d B) (f : Fresh P1 H B) (fz : Bool) : ∃ P2 B2, Ext P H P2 H1 [] ∧ Same P1 P2 ∧ Rel G P2 H1 v (if fz then d.frz else d) B2 ∧ Fresh P2 H B2 ∧ ∀ b ∈ B2, b ∈ B := by
  cases fz with
  | false => exact ⟨P1, B, e, Same.refl _, r, f, fun b hb => hb⟩
  | true =>
    have g := give_ext (A := B) e.und fun b hb => (f.2 b hb).2
    refine ⟨give P1 H1 B, [], ⟨e.same.trans g.same, g.und, e.keep, e.lck, fun b w q => ?_⟩, g.same, r.frz g.same fun b hb => give_in hb, Fresh.nil, fun b hb => by simp at hb⟩
    rcases g.new b w q with z | z | z
    · exact e.new b w z
    · exact .inr (.inl (e.free u z))
    · exact .inr (.inl (f.2 b z).1)
theorem s_setF (fz : Bool) {Se : Env → Res D} {Pl : Env → Res Plc} (hf : FldOk X.K X.mg f cs) (ho : PlOk X W o Pl) (he : EOk X W e Se) (hs : swapsWith e (some (.Attribute o f apos)) pos.line X.env = pure false := by rfl) :
    SOk X W L (.Assign [.Attribute o f apos] e pos) (sSetF cs f fz Pl Se) := ⟨PS.imp (ps_fld ho.pe he.pe hs) fun D σ H ⟨P, ρ, A, st, h⟩ => ⟨P, ρ, A, st, by
  unfold sSetF at h
  cases hse : Se ρ with
  | bad => simp only [hse] at h
  | exc x => simp only [hse] at h; exact PostX.stmt st h
  | ok d =>
    simp only [hse] at h
    intro v P1 H1 B e1 r fr
    obtain ⟨P2, B2, e2, sm, r2, f2, sub2⟩ := fz_of st.und e1 r fr fz
    refine ⟨P2, ρ, A, st.ext e2, ?_⟩
    cases hp : Pl ρ with
    | bad => simp only [hp] at h
    | exc x => simp only [hp] at h; exact PostX.ext (PostX.stmt st h) st.und e2
    | ok p =>
      simp only [hp] at h
      intro u P3 H3 e3 F
      cases hz : setF cs f (if fz then d.frz else d) p.at_ with
      | none => simp only [hz] at h
      | some d' =>
        simp only [hz] at h
        obtain ⟨B, R, rp, q, w⟩ := F
        cases hd : p.at_ with
        | obj ob c ns ds =>
          rw [hd] at hz rp
          cases ob with
          | false => simp [setF] at hz
          | true =>
            simp only [setF] at hz
            split at hz
            · rename_i hc
              cases hz
              cases rp with
              | @objO a dx C c ns vs ds A0 mg hH hl rl =>
                obtain ⟨C', mg', cl, na⟩ := hf.ex _ hc.1
                have : C' = C := by
                  have := mg.symm.trans mg'
                  cases this; rfl
                subst this
                have e13 := e2.trans st.und e3
                have r3 := r2.ext e3 fun b hb => (f2.2 b hb).2
                obtain ⟨z1, z2⟩ := putF_zip (f := f) (v := v) hl
                obtain ⟨B1, q1, R1, p1, s1⟩ := RelL.putF (f := f) r3 rl hl
                have st3 := st.ext e13
                have hA : ∀ b ∈ a :: A0, b ∈ A := fun b hb => q.symm.subset (List.mem_append_left _ hb)
                have B2A : ∀ b ∈ B2, b ∉ A := fun b hb z => by
                  obtain ⟨ob, hob⟩ := st.env.at b z
                  rw [(f2.2 b hb).1] at hob; cases hob
                obtain ⟨n1, n2, n3⟩ := List.nodup_append.mp (q.nodup_iff.mp st.nd)
                obtain ⟨m1, m2⟩ := List.nodup_cons.mp n1
                have mem1 : ∀ b ∈ B1, b ∈ B2 ∨ b ∈ A0 := fun b hb => (List.mem_append.mp (p1.subset hb)).imp id fun z => s1.subset z
                have na1 : a ∉ B1 := fun z => by
                  rcases mem1 a z with y | y
                  · exact B2A a y (hA a List.mem_cons_self)
                  · exact m1 y
                have nd1 : B1.Nodup := p1.nodup_iff.mpr (List.nodup_append.mpr ⟨f2.1, m2.sublist s1, fun x hx y hy z => B2A x hx (z ▸ hA y (List.mem_cons_of_mem _ (s1.subset hy)))⟩)
                have nd2 : (B1 ++ R).Nodup := List.nodup_append.mpr ⟨nd1, n2, fun x hx y hy z => by
                  rcases mem1 x hx with k | k
                  · exact B2A x k (z ▸ q.symm.subset (List.mem_append_right _ hy))
                  · exact n3 x (List.mem_cons_of_mem _ k) y hy z⟩
                have fr1 : ∀ b ∈ B1, P3 b = none ∧ (H b = none ∨ b ∈ A) := fun b hb => by
                  rcases mem1 b hb with k | k
                  · exact ⟨(e3.own r2.at fun b hb => (f2.2 b hb).2).2 b k, .inl (f2.2 b k).1⟩
                  · exact ⟨st3.off b (hA b (List.mem_cons_of_mem _ k)), .inr (hA b (List.mem_cons_of_mem _ k))⟩
                have rr : Rel (gd X) P3 (upd H3 a (.ins C' dx (putF f v (ns.zip vs)))) (.ref a) (.obj true c (putFN f ns) (putFD f (if fz then d.frz else d) ns ds)) (a :: B1) := by
                  rw [z1]
                  exact .objO mg upd_same z2 (q1.mono (Same.refl _) fun b hb => upd_ne fun z => na1 (z ▸ hb))
                obtain ⟨A', af⟩ := Foc.done (L := L) (p := p) (B0 := A0) st e13 q w rr nd2 na1 fr1
                exact ⟨a, C', dx, _, rfl, hH, cl, na, by rw [List.length_zip]; have := hc.2; omega, h σ _ _ A' af⟩
            · cases hz
        | _ => rw [hd] at hz; simp [setF] at hz⟩⟩
def mthC (c m : Str) (n : Nat) (φ : List D → FR) (So : Env → Res D) (Ss : Env → Res (List D)) : Env → Res D := fun ρ => (So ρ).bind fun o => match o with
  | .obj _ c' ns _ => if c' = c ∧ m ∉ ns then (Ss ρ).bind fun ds => if ds.length + 1 = n then (match φ (frzL (o :: ds)) with
    | .ok d _ => .ok d
    | .exc x _ => .exc x
    | .bad => .bad) else .bad else .bad
  | _ => .bad
theorem look_zip {ns : List Str} {vs : List V} {m : Str} (h : m ∉ ns) : (ns.zip vs).lookup m = none := by
  induction ns generalizing vs with
  | nil => rfl
  | cons g ns ih =>
    cases vs with
    | nil => rfl
    | cons v vs =>
      rw [List.zip_cons_cons, List.lookup_cons]
      have hb : (m == g) = false := by simpa using fun z => h (by simp [z])
      rw [hb]
      exact ih fun z => h (List.mem_cons_of_mem _ z)
theorem spF_res {G : Gd} {φ : List D → FR} {n : Nat} {P H P1 H1 : Hp} {vs : List V} {ds : List D} {B : List Addr} {Q : VK} {E : XK} {W : WX} {σ : Sl} (u : Under P H) (mk : Marks G P) (e : Ext P H P1 H1 []) (r : RelL G P1 H1 vs ds B) (f : Fresh P1 H B) (hn : ds.length = n)
    (h : match (match φ (frzL ds) with
      | .ok d _ => Res.ok d
      | .exc x _ => .exc x
      | .bad => .bad) with
      | .ok d => Post G P H Q d
      | .exc x => PostX G P H W σ x
      | .bad => False) (hE : ∀ cls d H', W cls d σ H' → E cls d H') : spF G n [] φ vs H1 Q E := by
  refine spF_of (W := W) (σ := σ) u mk e r f (r.length.trans hn) ?_ hE
  cases hφ : φ (frzL ds) <;> simp only [hφ] at h <;> exact h
variable {k : Nat} {ps : List Str} {φ : List D → FR}
theorem mth_one (F : MthOk X.prog X.w X.K X.mg X.base c m k ps [] φ) (hr : GRoom k X.A) (tk : Takes X W) (ho : EOk X W o So) (ha : AOk X W (e :: es) Ss) {pl : Sem Bool} (hst : starEach (e :: es) X.env = (false, eval e X.env) :: starEach es X.env) (hpl : (backTo pos (starEach es X.env)).any (·.1) = false)
    (ht : eval (.Call (.Attribute o m apos) (e :: es) [] pos) X.env = (do
      let ov ← eval o X.env
      standAt apos.atName
      let (f, first) ← holding [ov] (getMethod ov m pl)
      callWith pos f first (backTo pos (starEach (e :: es) X.env)) (backToKw pos (keywordEach [] X.env)))) :
    PE X (.Call (.Attribute o m apos) (e :: es) [] pos) (tE (gd X) W (mthC c m ps.length φ So Ss)) := by
  obtain ⟨f, fd, C, F, hb, mgC, cl, hm⟩ := F.ex
  refine ⟨fun pins s σ H Q I ⟨P, ρ, A, st, h⟩ => ?_⟩
  have h1 : tE (gd X) W So σ H fun x H1 => ∃ a dx fs, x = .ref a ∧ H1 a = some (.ins C dx fs) ∧ fs.lookup m = none ∧ tL (gd X) W Ss σ H1 fun vs H2 => spF (gd X) ps.length [] φ (x :: vs) H2 Q fun cls d H' => W cls d σ H' := by
    refine ⟨P, ρ, A, st, ?_⟩
    unfold mthC at h
    cases hso : So ρ with
    | bad => simp only [hso, Res.bind] at h
    | exc x => simp only [hso, Res.bind] at h; exact h
    | ok d =>
      simp only [hso, Res.bind] at h
      intro v P1 H1 B1 e1 r1 f1
      cases d with
      | obj ob c' ns ds =>
        simp only at h
        by_cases hc : c' = c ∧ m ∉ ns
        · rw [if_pos hc] at h
          obtain ⟨rfl, hn⟩ := hc
          obtain ⟨a, C', dx, vs, B0, rfl, mg, hH, hl, rl, sub⟩ := obj_of e1.und r1
          have : C' = C := by
            have := mg.symm.trans mgC
            cases this; rfl
          subst this
          refine ⟨a, dx, _, rfl, hH, look_zip hn, P1, ρ, A, st.ext e1, ?_⟩
          cases hs : Ss ρ with
          | bad => simp only [hs] at h
          | exc x => simp only [hs] at h; exact PostX.ext h st.und e1
          | ok ds' =>
            simp only [hs] at h
            intro vs' P2 H2 B2 e2 r2 f2
            by_cases hnn : ds'.length + 1 = ps.length
            · rw [if_pos hnn] at h
              have o1 : ∀ b ∈ B1, P1 b = none := fun b hb => (f1.2 b hb).2
              have fr : Fresh P2 H (B1 ++ B2) := by
                refine ⟨List.nodup_append.mpr ⟨f1.1, f2.1, fun x hx y hy z => ?_⟩, fun b hb => ?_⟩
                · obtain ⟨oo, hoo⟩ := r1.at x hx
                  rw [z, (f2.2 y hy).1] at hoo; cases hoo
                · rcases List.mem_append.mp hb with hb | hb
                  · exact ⟨(f1.2 b hb).1, (e2.own r1.at o1).2 b hb⟩
                  · exact ⟨e1.free st.und (f2.2 b hb).1, (f2.2 b hb).2⟩
              exact spF_res (W := W) (σ := σ) st.und st.mks (e1.trans st.und e2) (.cons (r1.ext e2 o1) r2) fr (by simpa using hnn) h fun _ _ _ z => z
            · rw [if_neg hnn] at h; exact h.elim
        · rw [if_neg hc] at h; exact h.elim
      | _ => exact (show False from h).elim
  refine PySem.W.methodCall_KW (pl := pl) (thn (ho.pe.run pins s σ H _ I h1) fun u s1 ⟨x, H1, I1, rx, a, dx, fs, ex, ea, l, q⟩ => ?_) ht
  subst ex
  obtain rfl : u = Value.ref a := rx
  refine getmeth_ok I1 ea cl hm l ?_
  refine PySem.W.callWith_K (first := [.ref a]) (h₀ := X.base) I.ok.mod.kin hm.kp (thn (ha.pa.run pos pins s1 σ H1 _ I1 q) fun us s2 ⟨vs, H2, I2, r, q2⟩ => ⟨I2.kIn, ?_⟩) hst hpl
  exact run_fnG (us := .ref a :: us) (vs := .ref a :: vs) F hr hb tk I2 (.cons rfl r) q2
theorem mth_one0 (F : MthOk X.prog X.w X.K X.mg X.base c m k ps [] φ) (hr : GRoom k X.A) (tk : Takes X W) (ho : EOk X W o So) {pl : Sem Bool}
    (ht : eval (.Call (.Attribute o m apos) [] [] pos) X.env = (do
      let ov ← eval o X.env
      standAt apos.atName
      let (f, first) ← holding [ov] (getMethod ov m pl)
      callWith pos f first (backTo pos (starEach [] X.env)) (backToKw pos (keywordEach [] X.env)))) :
    PE X (.Call (.Attribute o m apos) [] [] pos) (tE (gd X) W (mthC c m ps.length φ So sNil)) := by
  obtain ⟨f, fd, C, F, hb, mgC, cl, hm⟩ := F.ex
  refine ⟨fun pins s σ H Q I ⟨P, ρ, A, st, h⟩ => ?_⟩
  have h1 : tE (gd X) W So σ H fun x H1 => ∃ a dx fs, x = .ref a ∧ H1 a = some (.ins C dx fs) ∧ fs.lookup m = none ∧ spF (gd X) ps.length [] φ [x] H1 Q fun cls d H' => W cls d σ H' := by
    refine ⟨P, ρ, A, st, ?_⟩
    unfold mthC at h
    cases hso : So ρ with
    | bad => simp only [hso, Res.bind] at h
    | exc x => simp only [hso, Res.bind] at h; exact h
    | ok d =>
      simp only [hso, Res.bind] at h
      intro v P1 H1 B1 e1 r1 f1
      cases d with
      | obj ob c' ns ds =>
        simp only at h
        by_cases hc : c' = c ∧ m ∉ ns
        · rw [if_pos hc] at h
          obtain ⟨rfl, hn⟩ := hc
          obtain ⟨a, C', dx, vs, B0, rfl, mg, hH, hl, rl, sub⟩ := obj_of e1.und r1
          have : C' = C := by
            have := mg.symm.trans mgC
            cases this; rfl
          subst this
          refine ⟨a, dx, _, rfl, hH, look_zip hn, ?_⟩
          simp only [sNil] at h
          by_cases hnn : ([] : List D).length + 1 = ps.length
          · rw [if_pos hnn] at h
            exact spF_res (W := W) (σ := σ) st.und st.mks e1 (.cons (B := []) r1 .nil) (by simpa using f1) (by simpa using hnn) h fun _ _ _ z => z
          · rw [if_neg hnn] at h; exact h.elim
        · rw [if_neg hc] at h; exact h.elim
      | _ => exact (show False from h).elim
  refine PySem.W.methodCall_KW (pl := pl) (thn (ho.pe.run pins s σ H _ I h1) fun u s1 ⟨x, H1, I1, rx, a, dx, fs, ex, ea, l, q⟩ => ?_) ht
  subst ex
  obtain rfl : u = Value.ref a := rx
  refine getmeth_ok I1 ea cl hm l ?_
  exact PySem.W.callWith_K0 (first := [.ref a]) I1.kIn hm.kp (run_fnG (us := [.ref a]) (vs := [.ref a]) F hr hb tk I1 (.cons rfl .nil) q)
inductive TabOk (P : Program) (w : World) (K : PySem.W.Frag) (mg : Str → Option Value) (base : Heap) (m : Str) (k : Nat) (ps : List Str) : List (Str × (List D → FR)) → Prop
  | nil : TabOk P w K mg base m k ps []
  | cons {c : Str} {φ : List D → FR} {tab : List (Str × (List D → FR))} {j : Nat} : MthOk P w K mg base c m j ps [] φ → j ≤ k → TabOk P w K mg base m k ps tab → TabOk P w K mg base m k ps ((c, φ) :: tab)
def tabGo (tab : List (Str × (List D → FR))) (c : Str) : Option (List D → FR) := match tab with
  | [] => none
  | (c', φ) :: r => if c = c' then some φ else tabGo r c
def sMeth (m : Str) (tab : List (Str × (List D → FR))) (n : Nat) (So : Env → Res D) (Ss : Env → Res (List D)) : Env → Res D := fun ρ => (So ρ).bind fun o => match o with
  | .obj _ c ns _ => if m ∉ ns then (match tabGo tab c with
    | some φ => (Ss ρ).bind fun ds => if ds.length + 1 = n then (match φ (frzL (o :: ds)) with
      | .ok d _ => .ok d
      | .exc x _ => .exc x
      | .bad => .bad) else .bad
    | none => .bad) else .bad
  | _ => .bad
theorem tabGo_mem {c : Str} {φ : List D → FR} : ∀ {tab : List (Str × (List D → FR))}, tabGo tab c = some φ → (c, φ) ∈ tab
  | [], h => by cases h
  | (c', φ') :: tab, h => by
    simp only [tabGo] at h
    split at h
    · rename_i e; cases h; rw [e]; exact List.mem_cons_self
    · exact List.mem_cons_of_mem _ (tabGo_mem h)
theorem tab_pe {tab : List (Str × (List D → FR))} {ex : Expr} {n : Nat} (hne : tab ≠ []) (h : ∀ c φ, (c, φ) ∈ tab → PE X ex (tE (gd X) W (mthC c m n φ So Ss))) : PE X ex (tE (gd X) W (sMeth m tab n So Ss)) := by
  have key : ∀ tab : List (Str × (List D → FR)), (∀ c φ, (c, φ) ∈ tab → PE X ex (tE (gd X) W (mthC c m n φ So Ss))) → PE X ex fun σ H Q => ∃ c φ, (c, φ) ∈ tab ∧ tE (gd X) W (mthC c m n φ So Ss) σ H Q := by
    intro tab
    induction tab with
    | nil => intro _; exact ⟨fun _ _ _ _ _ _ ⟨_, _, q, _⟩ => by simp at q⟩
    | cons x tab ih =>
      intro h
      obtain ⟨c, φ⟩ := x
      refine PE.imp (PE.or (h c φ List.mem_cons_self) (ih fun c' φ' q => h c' φ' (List.mem_cons_of_mem _ q))) fun σ H Q ⟨c', φ', q, t⟩ => ?_
      rcases List.mem_cons.mp q with e | q
      · cases e; exact .inl t
      · exact .inr ⟨c', φ', q, t⟩
  refine PE.imp (key tab h) fun σ H Q ⟨P, ρ, A, st, q⟩ => ?_
  unfold sMeth at q
  cases hs : So ρ with
  | bad => simp only [hs, Res.bind] at q
  | exc x =>
    simp only [hs, Res.bind] at q
    cases tab with
    | nil => exact absurd rfl hne
    | cons y tab =>
      obtain ⟨c, φ⟩ := y
      refine ⟨c, φ, List.mem_cons_self, P, ρ, A, st, ?_⟩
      simp only [mthC, hs, Res.bind]
      exact q
  | ok d =>
    simp only [hs, Res.bind] at q
    cases d with
    | obj ob c ns ds =>
      simp only at q
      by_cases hm : m ∉ ns
      · rw [if_pos hm] at q
        cases ht : tabGo tab c with
        | none => rw [ht] at q; exact q.elim
        | some φ =>
          rw [ht] at q
          refine ⟨c, φ, tabGo_mem ht, P, ρ, A, st, ?_⟩
          simp only [mthC, hs, Res.bind, hm, not_false_eq_true, and_self, if_true]
          exact q
      · rw [if_neg hm] at q; exact q.elim
    | _ => exact (show False from q).elim
theorem TabOk.get {P : Program} {w : World} {K : PySem.W.Frag} {mg : Str → Option Value} {base : Heap} {m : Str} {k : Nat} {ps : List Str} {tab : List (Str × (List D → FR))} (h : TabOk P w K mg base m k ps tab) {c : Str} {φ : List D → FR} (q : (c, φ) ∈ tab) : ∃ j, j ≤ k ∧ MthOk P w K mg base c m j ps [] φ := by
  induction h with
  | nil => simp at q
  | cons F hj t ih =>
    rcases List.mem_cons.mp q with e | q
    · cases e; exact ⟨_, hj, F⟩
    · exact ih q
theorem e_meth {tab : List (Str × (List D → FR))} {pl : Sem Bool} {j : Nat} (T : TabOk X.prog X.w X.K X.mg X.base m j ps tab) (hr : GRoom k X.A) (tk : Takes X W) (ho : EOk X W o So) (ha : AOk X W (e :: es) Ss) (hj : j ≤ k := by decide) (hne : tab ≠ [] := by exact List.cons_ne_nil _ _)
    (hst : starEach (e :: es) X.env = (false, eval e X.env) :: starEach es X.env := by rfl) (hpl : (backTo pos (starEach es X.env)).any (·.1) = false := by rfl)
    (ht : eval (.Call (.Attribute o m apos) (e :: es) [] pos) X.env = (do
      let ov ← eval o X.env
      standAt apos.atName
      let (f, first) ← holding [ov] (getMethod ov m pl)
      callWith pos f first (backTo pos (starEach (e :: es) X.env)) (backToKw pos (keywordEach [] X.env))) := by rfl) : EOk X W (.Call (.Attribute o m apos) (e :: es) [] pos) (sMeth m tab ps.length So Ss) :=
  ⟨tab_pe hne fun c φ q => by
    obtain ⟨i, hi, F⟩ := T.get q
    exact mth_one F (hr.mono (Nat.le_trans hi hj)) tk ho ha hst hpl ht⟩
theorem e_meth0 {tab : List (Str × (List D → FR))} {pl : Sem Bool} {j : Nat} (T : TabOk X.prog X.w X.K X.mg X.base m j ps tab) (hr : GRoom k X.A) (tk : Takes X W) (ho : EOk X W o So) (hj : j ≤ k := by decide) (hne : tab ≠ [] := by exact List.cons_ne_nil _ _)
    (ht : eval (.Call (.Attribute o m apos) [] [] pos) X.env = (do
      let ov ← eval o X.env
      standAt apos.atName
      let (f, first) ← holding [ov] (getMethod ov m pl)
      callWith pos f first (backTo pos (starEach [] X.env)) (backToKw pos (keywordEach [] X.env))) := by rfl) : EOk X W (.Call (.Attribute o m apos) [] [] pos) (sMeth m tab ps.length So sNil) :=
  ⟨tab_pe hne fun c φ q => by
    obtain ⟨i, hi, F⟩ := T.get q
    exact mth_one0 F (hr.mono (Nat.le_trans hi hj)) tk ho ht⟩
theorem run_makeG {pins : List (Addr × Obj)} {σ : Sl} {H : Hp} {s : Shared} {Q : VK} {us : List Value} {vs : List V} {f C : Addr} {fd : FuncData} {sp : Sp} (M : Mk X.K C f) (F : FnG X.prog X.w X.K X.mg X.base k f fd ps sp) (hr : GRoom (k + 1) X.A) (hb : Binds X.K fd ps [])
    (tk : Takes X W) (I : Inv X pins σ H s) (r : Vals vs us)
    (h : ∀ x dx, H x = none → H dx = none → dx ≠ x → sp (.ref x :: vs) (upd (upd H dx (.own x)) x (.ins C dx [])) (fun v H2 => v = .non ∧ Q (.ref x) H2) fun cls d H' => W cls d σ H') :
    wpAny (model X.prog X.w) X.A (call (.ref C) us) (EP X pins σ Q) X.xe s := by
  have hq := h (s.heap.objs.size + 1) s.heap.objs.size (I.hok.fresh (Nat.le_succ _)) (I.hok.fresh (Nat.le_refl _)) (Nat.ne_of_lt (Nat.lt_succ_self _))
  have I2 := Inv.made (C := C) I
  have r2 : Vals (V.ref (s.heap.objs.size + 1) :: vs) (Value.ref (s.heap.objs.size + 1) :: us) := .cons rfl r
  have hl : (Value.ref (s.heap.objs.size + 1) :: us).length = ps.length := by
    have e := r2.length
    rw [F.len _ _ _ _ hq] at e
    exact e.symm
  have bt := hb { s with heap := (s.heap.push PySem.W.emptyDict).push (PySem.W.instObj C s.heap.objs.size) } (Value.ref (s.heap.objs.size + 1) :: us) I2.kIn (by rw [List.append_nil]; exact hl)
  rw [List.append_nil] at bt
  refine wpAny_call (make_map (f := f) I.kIn M.makes M.init (beq_iff_eq.mp M.fn) (codeAny_mono (F.run _ X.stack _ _ ⟨Value.ref (s.heap.objs.size + 1) :: us, []⟩ (Value.ref (s.heap.objs.size + 1) :: us) _ _ _ ⟨hr.r.make C us [], hr.g⟩
    (I2.env0.make C us []) bt r2 hq) fun r s' hq' => ?_))
  cases r with
  | error e => exact tk e s' (XE.of_call I2 (fun _ _ _ z => z) hq')
  | ok fl =>
    cases fl with
    | ret u =>
      obtain ⟨v, H', I3, rv, ev, q3⟩ := I2.after hq'
      subst ev
      exact ⟨rv, ⟨V.ref (s.heap.objs.size + 1), H', I3, rfl, q3⟩⟩
    | next => exact False.elim hq'
    | brk => exact False.elim hq'
    | cont => exact False.elim hq'
def mkRes (c : Str) (n : Nat) (φ : List D → FR) (ds : List D) : Res D := if ds.length + 1 = n then (match φ (.obj true c [] [] :: frzL ds) with
  | .ok .non [o] => .ok o
  | .exc x _ => .exc x
  | _ => .bad) else .bad
def sMake (c : Str) (n : Nat) (φ : List D → FR) (S : Env → Res (List D)) : Env → Res D := fun ρ => (S ρ).bind fun ds => mkRes c n φ ds
theorem make_sp {C : Addr} {σ : Sl} {H P H1 P1 : Hp} {Q : VK} {vs : List V} {ds : List D} {B : List Addr} (hm : X.mg c = some (.ref C)) (u : Under P H) (mk : Marks (gd X) P) (e : Ext P H P1 H1 []) (r : RelL (gd X) P1 H1 vs ds B) (f : Fresh P1 H B)
    (h : match mkRes c ps.length φ ds with
      | .ok d => Post (gd X) P H Q d
      | .exc x => PostX (gd X) P H W σ x
      | .bad => False) : ∀ x dx, H1 x = none → H1 dx = none → dx ≠ x → spF (gd X) ps.length [0] φ (.ref x :: vs) (upd (upd H1 dx (.own x)) x (.ins C dx [])) (fun v H2 => v = .non ∧ Q (.ref x) H2) fun cls d H' => W cls d σ H' := by
  intro x dx hx hdx ne
  unfold mkRes at h
  by_cases hn : ds.length + 1 = ps.length
  · rw [if_pos hn] at h
    obtain ⟨e2, sm⟩ := give_ext0 u e f
    have x1 : (upd H1 dx (HO.own x)) x = none := by rw [upd_ne ne.symm]; exact hx
    have e3 := ext_own (o := .own x) e2.und hdx
    have e4 := ext_own (o := .ins C dx []) e3.und x1
    have e34 := e3.trans e2.und e4
    have e5 := e2.trans u e34
    have Px : give P1 H1 B x = none := e2.und.free hx
    have hxH : H x = none := e2.free u hx
    have rl : RelL (gd X) (give P1 H1 B) (upd (upd H1 dx (.own x)) x (.ins C dx [])) (.ref x :: vs) (.obj true c [] [] :: frzL ds) ([x] ++ []) :=
      .cons (.objO (ns := []) (vs := []) (A := []) hm (by rw [upd_same]; rfl) rfl .nil) (r.frz sm fun b hb => give_in hb)
    refine ⟨by simp [r.length, hn], give P1 H1 B, _, [x], e34.und, mk.mono e2.same, rl, by simp, fun b hb => by simp at hb; subst hb; exact Px, ?_⟩
    cases hφ : φ (.obj true c [] [] :: frzL ds) with
    | bad => rw [hφ] at h; exact h.elim
    | exc z os =>
      rw [hφ] at h
      intro cls d P' H' C' e6 xr rc nd fr
      refine h cls d P' H' ?_ xr
      exact Ext.transA u e5 e6 fun b hb => by simp at hb; subst hb; exact .inl hxH
    | ok dd os =>
      rw [hφ] at h
      intro v P' H' B' C' e6 rv rc nd fr
      cases dd with
      | non =>
        cases os with
        | nil => exact h.elim
        | cons o os =>
          cases os with
          | cons _ _ => exact h.elim
          | nil =>
            cases rv
            refine ⟨rfl, ?_⟩
            have e7 : Ext P H P' H' [] := Ext.transA u e5 e6 fun b hb => by simp at hb; subst hb; exact .inl hxH
            have rc' : RelL (gd X) P' H' [V.ref x] [o] C' := rc
            cases rc' with
            | @cons v0 d0 A0 vs0 ds0 B0 r0 t0 =>
              cases t0
              rw [List.append_nil] at nd fr
              refine h (.ref x) P' H' A0 e7 r0 ⟨by simpa using nd, fun b hb => ?_⟩
              obtain ⟨q1, q2⟩ := fr b (by simpa using hb)
              refine ⟨?_, q1⟩
              rcases q2 with z | z
              · exact e5.free u z
              · simp at z; subst z; exact hxH
      | _ => exact (show False from h).elim
  · rw [if_neg hn] at h; exact h.elim
theorem e_make {x : Str} {p : Pos} {j : Nat} (M : MkOk X.prog X.w X.K X.mg X.base x j ps φ) (hr : GRoom k X.A) (tk : Takes X W) (ha : AOk X W (e :: es) Ss) (hj : j + 1 ≤ k := by decide) (hg : Gl X x := by rfl) (hdb : (x == ("__debug__" : Str)) = false := by decide)
    (he : starEach (e :: es) X.env = (false, eval e X.env) :: starEach es X.env := by rfl) (hpl : (backTo pos (starEach es X.env)).any (·.1) = false := by rfl) : EOk X W (.Call (.Name x p) (e :: es) [] pos) (sMake x ps.length φ Ss) := by
  obtain ⟨f, fd, C, F, hb, hm, M⟩ := M.ex
  refine ⟨⟨fun pins s σ H Q I ⟨P, ρ, A, st, h⟩ => ?_⟩⟩
  have h1 : tL (gd X) W Ss σ H fun vs H1 => ∀ x dx, H1 x = none → H1 dx = none → dx ≠ x → spF (gd X) ps.length [0] φ (.ref x :: vs) (upd (upd H1 dx (.own x)) x (.ins C dx [])) (fun v H2 => v = .non ∧ Q (.ref x) H2) fun cls d H' => W cls d σ H' := by
    refine ⟨P, ρ, A, st, ?_⟩
    unfold sMake at h
    cases hs : Ss ρ with
    | bad => simp only [hs, Res.bind] at h
    | exc x => simp only [hs, Res.bind] at h; exact h
    | ok ds =>
      simp only [hs, Res.bind] at h
      intro vs P1 H1 B e1 r f
      exact make_sp hm st.und st.mks e1 r f h
  refine wpAny_Call_Name_kw (ld_glob I hg hm ?_ hdb)
  refine PySem.W.callWith_K (h₀ := X.base) I.ok.mod.kin M.kp (thn (ha.pa.run pos pins s σ H _ I h1) fun us s1 ⟨vs, H1, I1, r, q⟩ => ⟨I1.kIn, ?_⟩) he hpl
  exact run_makeG M F (hr.mono hj) hb tk I1 r q
end
end RL
namespace RL
open PySem PySem.Spec PyProof.Rows L2
structure XcOk (K : PySem.W.Frag) (mg : Str → Option Value) (c : Str) : Prop where
  ex : ∃ C, mg c = some (.ref C) ∧ PySem.W.excIn K C [.type "ValueError", .type "Exception", .type "BaseException", .type "object"] "ValueError.__new__" = true ∧ PySem.W.keepIn K (.ref C) = true ∧ PySem.W.subIn K (.ref C) (.type "BaseException") = some true ∧ PySem.W.typeIn K (.ref C) = some (.type "type")
section
variable {X : Cx} {W : WX} {L : List Nat} {pos : Pos}
def sRaise (c : Str) : Env → SRes := fun ρ => .exc (.exn c [] []) ρ
theorem s_raise {x m : Str} {j : Nat} {p p2 p3 : Pos} (T : XcOk X.K X.mg x) (hc : X.calm = true) (tk : Takes X W) (hg : Gl X x := by rfl) (hdb : (x == ("__debug__" : Str)) = false := by decide) : SOk X W L (.Raise (some (.Call (.Name x p) [.Constant (.str m) j p2] [] p3)) none pos) (sRaise x) := by
  obtain ⟨C, gC, q, kC, h1, h2⟩ := T.ex
  exact ⟨PS.imp (ps_raise hc tk (pmk_own PySem.F.excBase_ValueError q gC kC (raises_own h1 h2) hg hdb)) fun D σ H ⟨P, ρ, A, st, h⟩ => h (.ref C) none σ P H A (.refl st) ⟨x, [], [], C, rfl, gC, rfl, .inl ⟨rfl, rfl, rfl⟩⟩⟩
def subGo (subs : List (Str × Bool)) (c : Str) : Option Bool := match subs with
  | [] => none
  | (c', b) :: r => if c = c' then some b else subGo r c
structure SubOk (K : PySem.W.Frag) (mg : Str → Option Value) (h : Str) (subs : List (Str × Bool)) : Prop where
  ex : ∃ C, mg h = some (.ref C) ∧ ∀ c b, (c, b) ∈ subs → ∃ D, mg c = some (.ref D) ∧ PySem.W.exmOne K (.ref D) (.ref C) = some b
theorem subGo_mem {c : Str} {b : Bool} : ∀ {subs : List (Str × Bool)}, subGo subs c = some b → (c, b) ∈ subs
  | [], h => by cases h
  | (c', b') :: r, h => by
    simp only [subGo] at h
    split at h
    · rename_i e; cases h; rw [e]; exact List.mem_cons_self
    · exact List.mem_cons_of_mem _ (subGo_mem h)
theorem exT_ok {P : Program} {w : World} {H : Hp} {h : Heap} {a : Addr} {cls : Value} {d : Option Addr} {oe : Obj} {vs : Array Value} (e : h.get? a = some oe) (z : Zc cls d oe) (hd : oe.data = .fields vs) : ObjOk P w H h a (ExT cls d a) :=
  ⟨⟨oe, vs, e, z.1, z.2, hd⟩, ⟨oe, e⟩, fun h1 h2 ⟨o, v, q, r⟩ k => ⟨o, v, k o q, r⟩⟩
theorem Inv.tracked {pins : List (Addr × Obj)} {σ : Sl} {H : Hp} {s : Shared} {a : Addr} {cls : Value} {d : Option Addr} {oe : Obj} {vs : Array Value} (I : Inv X pins σ H s) (e : s.heap.get? a = some oe) (z : Zc cls d oe) (hd : oe.data = .fields vs) (na : H a = none) (nL : a ≠ X.env.locals)
    (n0 : ∀ o, X.s_0.heap.get? a ≠ some o) (np : ∀ p ∈ X.pn ++ pins, p.1 ≠ a) : Inv X pins σ (upd H a (ExT cls d a)) s := by
  have ne : ∀ b o, X.s_0.heap.get? b = some o → b ≠ a := fun b o q y => n0 o (y ▸ q)
  refine ⟨I.ok, I.os, I.bare, ⟨I.base.keep, I.base.slot, fun b o q n hx => ?_, I.base.there, fun b xs q => ?_, fun b o u q => ?_, fun b ps q => ?_⟩, I.loc, I.cell, ?_, fun x c q => ?_, fun p hp => ?_, fun b u q => ?_, I.len⟩
  · rw [upd_ne (ne b o q)]; exact I.base.free b o q n hx
  · have h1 := I.base.tups b xs q
    rw [upd_ne (ne_of_none h1 na)]; exact h1
  · have h1 := I.base.frzs b o u q
    rw [upd_ne (ne_of_none h1 na)]; exact h1
  · obtain ⟨m, h1⟩ := I.base.tbls b ps q
    exact ⟨m, by rw [upd_ne (ne_of_none h1 na)]; exact h1⟩
  · rw [upd_ne nL.symm]; exact I.free
  · obtain ⟨v, o, ho, hv⟩ := I.cell x c q
    have : c ≠ a := fun y => by
      rw [y, e] at ho
      cases ho
      rw [hd] at hv
      cases hv
    rw [upd_ne this]; exact I.freeC x c q
  · obtain ⟨h1, h2, h3⟩ := I.pin p hp
    exact ⟨h1, by rw [upd_ne (np p hp)]; exact h2, h3⟩
  · by_cases hb : b = a
    · subst hb
      rw [upd_same] at q
      cases q
      exact exT_ok e z hd
    · rw [upd_ne hb] at q
      exact (I.hok b u q).stay (fun c v _ r => r) (fun c r => by rw [upd_ne (ne_of_none r na)]; exact r) fun c xs r => by rw [upd_ne (ne_of_none r na)]; exact r
theorem Inv.toSuite {pins : List (Addr × Obj)} {σ : Sl} {H : Hp} {s : Shared} (I : Inv X pins σ H s) (a : Addr) : Inv (X.suite a (X.pn ++ pins)) [] σ H s :=
  ⟨I.ok.suite _ _, I.os, I.bare, I.base, I.loc, I.cell, I.free, I.freeC, fun p hp => I.pin p (by rw [List.append_nil] at hp; exact hp), I.hok, I.len⟩
theorem Inv.ofSuite {pins pn' : List (Addr × Obj)} {σ : Sl} {H : Hp} {s : Shared} {a : Addr} (I : Inv (X.suite a (X.pn ++ pins)) pn' σ H s) (ok : X.Ok) : Inv X pins σ H s :=
  ⟨ok, I.os, I.bare, I.base, I.loc, I.cell, I.free, I.freeC, fun p hp => I.pin p (List.mem_append_left _ hp), I.hok, I.len⟩
def wAsT (K : PySem.W.Frag) (c : Value) (i : Nat) (ts : TS) (Wout : WX) (D : Ends) : WX := fun cls d σ H =>
  ∃ b, PySem.W.exmOne K cls c = some b ∧ (b = true → ∀ a, H a = none → ts { nx := fun σ' H' => D.nx (σ'.set i none) H', rt := D.rt, bk := fun σ' H' => D.bk (σ'.set i none) H', ct := fun σ' H' => D.ct (σ'.set i none) H' } (σ.set i (some (.ref a))) (upd H a (ExT cls d a))) ∧
    (b = false → Wout cls d σ H)
theorem ps_try_asT {x n : Str} {c : Value} {i : Nat} {body suite : List Stmt} {b₀ : Stmt} {np pos' : Pos} {tb : WX → TS} {ts : TS} {Wout : WX} (hs : X.stack = X.env :: X.outer) (hf : X.env.frame = some X.env.locals) (hex : X.ex = []) (hN : X.N.Nodup) (hi : X.N[i]? = some n) (hln : X.env.kindOf n = some .local) (hc : Names X x c) (tk : Takes X Wout)
    (hb : ∀ (W : WX) (pn : List (Addr × Obj)) (xe : Value → Shared → Prop), Takes (X.tr pn xe) W → PassesOwn (model X.prog X.w) X.A X.env xe → PSs (X.tr pn xe) body (tb W))
    (hsu : ∀ (a : Addr) (pn : List (Addr × Obj)), PSs (X.suite a pn) (b₀ :: suite) ts) :
    PS X (.Try body [.ExceptHandler (some (.Name x np)) (some n) (b₀ :: suite) pos'] [] [] pos) (fun D σ H => tb (wAsT X.K c i ts Wout D) D σ H) := by
  refine ⟨fun pins s σ H D I h => ?_⟩
  have ok := I.ok
  have hfr : X.A.frames = some (X.env :: X.outer) := by rw [ok.frames, hs]
  have hloc : Loc X.env.scope n := .inl hln
  refine wpAny_Try_except ?_
  refine wpAny_mono ((hb (wAsT X.K c i ts Wout D) (X.pn ++ pins) (fun e s₁ => wpAny (model X.prog X.w) X.A (noteFrame e X.env) (fun _ s₂ => wpAny (model X.prog X.w) X.A (setFlight e none) (fun _ s₃ =>
    wpAny (model X.prog X.w) X.A (handleBy e X.env [.ExceptHandler (some (.Name x np)) (some n) (b₀ :: suite) pos']) (SP X pins D) X.xe s₃) X.xe s₂) X.xe s₁) (fun u s' xx => ?_) PassesOwn.looking).run [] s σ H D (I.toTry _) h) (fun f s1 hsp => ?_) (fun e s1 he => he)
  · obtain ⟨a, B, sI, pins', σ', H', cls, d, rfl, J', nb, up, sky, na, os, ag, b, hb1, hyes, hno⟩ := xx
    have J : Inv X pins σ' H' sI := J'.ofTry ok
    have sky' : Sky B (X.env :: X.outer) a (Zc cls d) X.env.locals s'.heap := by rw [← hs]; exact sky
    show wpAny (model X.prog X.w) X.A (noteFrame (.ref a) X.env) _ _ _
    refine Sky.land Zc.steady hfr hf sky' fun h3 fl3 up3 => ?_
    have J3 : Inv X pins σ' H' { s' with heap := h3 } := J.landed nb fl3.1 (up.trans up3) os ag
    obtain ⟨oe3, vs3, he3, hz3, hd3⟩ := fl3.there
    have notFr : ∀ {h : Heap} {o : Obj} {vs : Array Value}, h.FunFrames B (X.env :: X.outer) → h.get? a = some o → o.data = .fields vs → a ∉ frs (X.env :: X.outer) := fun {h o vs} ff e dd hm => by
      obtain ⟨_, o', e', hnf⟩ := ff.mem hm
      rw [e] at e'; cases e'
      exact hnf _ dd
    have nfr := notFr fl3.2.2.1 he3 hd3
    have nL : a ≠ X.env.locals := fun z => nfr (List.mem_filterMap.mpr ⟨X.env, List.mem_cons_self, by rw [hf, z]⟩)
    have nF : a ∉ X.fs := fun hm => by
      obtain ⟨e, he, q⟩ := List.mem_filterMap.mp hm
      exact nfr (List.mem_filterMap.mpr ⟨e, List.mem_cons_of_mem _ he, q⟩)
    have nI : ∀ o, sI.heap.get? a ≠ some o := fun o q => by
      have := nb a o q (by rw [hs]; exact nfr)
      rw [fl3.2.1] at this
      cases this
    have n0 : ∀ o, X.s_0.heap.get? a ≠ some o := fun o q => by
      obtain ⟨o', q'⟩ := J.base.there a o q (by rw [hex]; simp)
      exact nI o' q'
    have np' : ∀ p ∈ X.pn ++ pins, p.1 ≠ a := fun p hp z => nI p.2 (z ▸ (J.pin p hp).1)
    have S3 := J3.suite he3 hd3 na nL nF
    refine wpAny_handleBy_cons (codeAny_handlers_test ?_) (by intro q; cases q)
    have LT : PySem.W.Looks (model X.prog X.w) h3 (typeOf (.ref a)) cls := fun A Q E s k q => wpAny_typeOf_ref (k _ _ he3) (by rw [hz3.1]; exact q)
    have LM := PySem.W.exm_one (M := model X.prog X.w) (J3.kIn) LT hb1
    have test : ∀ {Q : Value → Shared → Prop} {E : Value → Shared → Prop}, Q c { s' with heap := h3 } → wpAny (model X.prog X.w) (X.A.mark (some (.ref a))) (eval (.Name x np) X.env) Q E { s' with heap := h3 } := fun {Q E} q => by
      obtain ⟨hg, hdbg, hm | ⟨hm, hv, hnn⟩⟩ := hc
      · exact ld_glob (X := X.suite a ((a, oe3) :: (X.pn ++ pins))) S3 hg hm q hdbg
      · exact ld_blt (X := X.suite a ((a, oe3) :: (X.pn ++ pins))) S3 hg hm hv q hnn hdbg
    refine test (LM.here ?_)
    cases b with
    | true =>
      refine codeAny_handlers_suite_as ?_
      refine HandSPX.lands_againZ fl3 fun h4 fl4 up4 => ?_
      have J4 : Inv X pins σ' H' { s' with heap := h4 } := J.landed nb fl4.1 ((up.trans up3).trans up4) os ag
      obtain ⟨oe4, vs4, he4, hz4, hd4⟩ := fl4.there
      have S4 := Inv.toSuite (Inv.tracked J4 he4 hz4 hd4 na nL n0 np') a
      refine store_ok (X := X.suite a (X.pn ++ pins)) (v := .ref a) S4 hN hi hloc rfl (fun s5 S5 => ?_) (.inr hln)
      refine wpAny_mono ((hsu a (X.pn ++ pins)).run [] s5 _ _ _ S5 (hyes rfl a na)) (fun f s6 hsp => ?_) (fun _ _ z => False.elim z)
      have end_ : ∀ {σ6 : Sl} {H6 : Hp} {Q : Shared → Prop}, Inv (X.suite a (X.pn ++ pins)) [] σ6 H6 s6 → (∀ s7, Inv X pins (σ6.set i none) H6 s7 → Q s7) →
          wpAny (model X.prog X.w) X.A (do bindName X.env n .none; unbindBehindTheSuite X.env n pos') (fun _ s7 => Q s7) X.xe s6 := fun {σ6 H6 Q} S6 hq => gone_ok (Inv.ofSuite S6 ok) hN hi hln hq
      cases f with
      | next =>
        obtain ⟨σ6, H6, S6, q6⟩ := hsp
        exact end_ S6 fun s7 J7 => ⟨_, _, J7, q6⟩
      | brk =>
        obtain ⟨σ6, H6, S6, q6⟩ := hsp
        exact end_ S6 fun s7 J7 => ⟨_, _, J7, q6⟩
      | cont =>
        obtain ⟨σ6, H6, S6, q6⟩ := hsp
        exact end_ S6 fun s7 J7 => ⟨_, _, J7, q6⟩
      | ret u =>
        obtain ⟨v6, σ6, H6, S6, r6, q6⟩ := hsp
        exact end_ S6 fun s7 J7 => ⟨_, _, _, J7, r6, q6⟩
    | false =>
      show wpAny _ X.A (handleBy (.ref a) X.env []) _ _ _
      refine wpAny_handleBy_nil ?_
      obtain ⟨k1, k2, k3, oe, vs, T, oT, ts', he, hz, hd, h1, hr⟩ := id fl3
      unfold PySem.passOn
      refine wpAny_bind (wpAny_field he hd h1 ?_)
      rw [if_neg (show ¬ ((Value.ref T == Value.none) = true) from by simp)]
      have fin : wpAny (model X.prog X.w) X.A (setFlight (.ref a) X.env.frame) (fun _ s4 => wpAny (model X.prog X.w) X.A (throw (.ref a) : Sem Flow) (SP X pins D) X.xe s4) X.xe { s' with heap := h3 } := by
        rw [hf]
        refine HandSPX.setFlight_upZ fl3 fun h4 hh4 up4 => wpAny_throw (tk _ _ ?_)
        exact ⟨a, B, sI, pins, σ', H', cls, d, rfl, J, nb, (up.trans up3).trans up4, .inr (.inr (by rw [hs]; exact hh4)), na, os, ag, hno rfl⟩
      first
        | exact wpAny_bind (wpAny_pure (wpAny_bind fin))
        | exact wpAny_bind fin
  · cases f with
    | next =>
      obtain ⟨σ', H', J', q⟩ := hsp
      exact wpAny_execs_nil ⟨σ', H', J'.ofTry ok, q⟩
    | brk =>
      obtain ⟨σ', H', J', q⟩ := hsp
      exact ⟨σ', H', J'.ofTry ok, q⟩
    | cont =>
      obtain ⟨σ', H', J', q⟩ := hsp
      exact ⟨σ', H', J'.ofTry ok, q⟩
    | ret u =>
      obtain ⟨v, σ', H', J', r, q⟩ := hsp
      exact ⟨v, σ', H', J'.ofTry ok, r, q⟩
def unset (i : Nat) : SRes → SRes
  | .nx ρ => .nx (ρ.set i none)
  | .rt d ρ => .rt d (ρ.set i none)
  | .bk ρ => .bk (ρ.set i none)
  | .exc _ _ => .bad
  | .bad => .bad
def sTryAs (i : Nat) (subs : List (Str × Bool)) (S T : Env → SRes) : Env → SRes := fun ρ => match S ρ with
  | .exc (.exn c ns ds) ρ1 => (match subGo subs c with
    | some true => unset i (T (ρ1.set i (some (.exn c ns ds))))
    | some false => .exc (.exn c ns ds) ρ1
    | none => .bad)
  | .exc _ _ => .bad
  | r => r
theorem After.wipe {G : Gd} {P H P' H' : Hp} {σ σ' : Sl} {ρ' : Env} {A A' : List Addr} {i : Nat} (a : After G P H σ A L P' H' σ' ρ' A') (hi : i ∉ L) : ∃ A2, After G P H σ A L P' H' (σ'.set i none) (ρ'.set i none) A2 ∧ ∀ b ∈ A2, b ∈ A' := by
  obtain ⟨C, c1, c2, c3⟩ := a.st.env.drop (i := i)
  refine ⟨C, ⟨a.ext, ⟨a.st.und, ?_, c2 a.st.nd, fun b hb => a.st.off b (c1 b hb), a.st.mks⟩, fun b hb => a.sub b (c1 b hb), by simpa using a.len, fun j hj => ?_⟩, c1⟩
  · by_cases h : i < ρ'.length
    · exact c3.anyAt (by simp [h])
    · rw [List.set_eq_of_length_le (by have := a.st.env.length; omega)]
      exact c3
  · have : i ≠ j := fun e => hi (e ▸ hj)
    rw [List.getElem?_set_ne this]
    exact a.pin j hj
theorem s_tryAs (i : Nat) {x n : Str} {subs : List (Str × Bool)} {body suite : List Stmt} {b₀ : Stmt} {np pos' : Pos} {S T : Env → SRes} (hs : X.stack = X.env :: X.outer) (hf : X.env.frame = some X.env.locals) (hex : X.ex = []) (hN : X.N.Nodup) (hsub : SubOk X.K X.mg x subs) (tk : Takes X W)
    (hb : ∀ (W : WX) (pn : List (Addr × Obj)) (xe : Value → Shared → Prop), Takes (X.tr pn xe) W → PassesOwn (model X.prog X.w) X.A X.env xe → SsOk (X.tr pn xe) W L body S) (hsu : ∀ (a : Addr) (pn : List (Addr × Obj)), SsOk (X.suite a pn) WF L (b₀ :: suite) T)
    (hi : X.N[i]? = some n := by rfl) (hln : X.env.kindOf n = some .local := by rfl) (hg : Gl X x := by rfl) (hdb : (x == ("__debug__" : Str)) = false := by decide) (hL : i ∉ L := by decide) :
    SOk X W L (.Try body [.ExceptHandler (some (.Name x np)) (some n) (b₀ :: suite) pos'] [] [] pos) (sTryAs i subs S T) := by
  obtain ⟨C, gC, hC⟩ := hsub.ex
  refine ⟨PS.imp (ps_try_asT (tb := fun W => tS (gd X) W L S) (ts := tS (gd X) WF L T) hs hf hex hN hi hln ⟨hg, hdb, .inl gC⟩ tk (fun W pn xe t p => (hb W pn xe t p).pss) fun a pn => (hsu a pn).pss) fun Dn σ H ⟨P, ρ, A, st, h⟩ => ⟨P, ρ, A, st, ?_⟩⟩
  unfold sTryAs at h
  cases hS : S ρ with
  | bad => simp only [hS] at h
  | nx ρ1 => simp only [hS] at h; exact h
  | rt d ρ1 => simp only [hS] at h; exact h
  | bk ρ1 => simp only [hS] at h; exact h
  | exc z ρ1 =>
    simp only [hS] at h
    intro cls dx σ1 P1 H1 A1 a xr
    obtain ⟨c, ns, ds, Cc, rfl, gc, rfl, xf⟩ := xr
    simp only at h
    cases hg : subGo subs c with
    | none => rw [hg] at h; exact h.elim
    | some b =>
      rw [hg] at h
      obtain ⟨D', gD, em⟩ := hC c b (subGo_mem hg)
      have : D' = Cc := by
        have := gD.symm.trans gc
        cases this; rfl
      subst this
      refine ⟨b, em, fun hbt ad hn => ?_, fun hbf => ?_⟩
      · subst hbt
        simp only at h
        have un := a.st.und
        have e2 := ext_fix (o := ExT (.ref D') dx ad) un hn
        have rx : Rel (gd X) (upd P1 ad (ExT (.ref D') dx ad)) (upd H1 ad (ExT (.ref D') dx ad)) (.ref ad) (.exn c ns ds) [] := .exn gc upd_same (xf.mono e2.same)
        have st2 := a.st.ext e2
        by_cases hl : i < ρ1.length
        · obtain ⟨A2, st3, sub3⟩ := st2.store (i := i) rx (by simpa using st2.nd) (fun b hb => by simp at hb) hl
          have a2 : After (gd X) P1 H1 σ1 A1 L (upd P1 ad (ExT (.ref D') dx ad)) (upd H1 ad (ExT (.ref D') dx ad)) (σ1.set i (some (.ref ad))) (ρ1.set i (some (.exn c ns ds))) A2 :=
            ⟨e2.more, st3, fun b hb => .inr (by simpa using sub3 b hb), by simp, fun j hj => by rw [List.getElem?_set_ne (fun e => hL (by rw [e]; exact hj))]⟩
          have a12 := a.trans st.und a2
          refine ⟨_, _, A2, st3, ?_⟩
          cases hT : T (ρ1.set i (some (.exn c ns ds))) with
          | bad => rw [hT] at h; exact h.elim
          | exc y ρ2 => rw [hT] at h; exact h.elim
          | nx ρ2 =>
            rw [hT] at h
            intro σ' P' H' A' b3
            obtain ⟨A4, a4, _⟩ := (a12.trans st.und b3).wipe hL
            exact h _ P' H' A4 a4
          | bk ρ2 =>
            rw [hT] at h
            intro σ' P' H' A' b3
            obtain ⟨A4, a4, _⟩ := (a12.trans st.und b3).wipe hL
            exact h _ P' H' A4 a4
          | rt d ρ2 =>
            rw [hT] at h
            intro v σ' P' H' A' B b3 q1 q2 q3
            obtain ⟨A4, a4, s4⟩ := (a12.trans st.und b3).wipe hL
            obtain ⟨n1, n2, n3⟩ := List.nodup_append.mp q2
            exact h v _ P' H' A4 B a4 q1 (List.nodup_append.mpr ⟨n1, a4.st.nd, fun x hx y hy => n3 x hx y (s4 y hy)⟩) (a12.newB st.und q3)
        · have hset : ρ1.set i (some (D.exn c ns ds)) = ρ1 := List.set_eq_of_length_le (by omega)
          have hlσ : σ1.length = ρ1.length := a.st.env.length
          have hsetσ : σ1.set i (some (.ref ad)) = σ1 := List.set_eq_of_length_le (by omega)
          rw [hset] at h
          rw [hsetσ]
          have a2 : After (gd X) P1 H1 σ1 A1 L (upd P1 ad (ExT (.ref D') dx ad)) (upd H1 ad (ExT (.ref D') dx ad)) σ1 ρ1 A1 := .pure a.st e2
          have a12 := a.trans st.und a2
          refine ⟨_, _, A1, st2, ?_⟩
          cases hT : T ρ1 with
          | bad => rw [hT] at h; exact h.elim
          | exc y ρ2 => rw [hT] at h; exact h.elim
          | nx ρ2 =>
            rw [hT] at h
            intro σ' P' H' A' b3
            obtain ⟨A4, a4, _⟩ := (a12.trans st.und b3).wipe hL
            exact h _ P' H' A4 a4
          | bk ρ2 =>
            rw [hT] at h
            intro σ' P' H' A' b3
            obtain ⟨A4, a4, _⟩ := (a12.trans st.und b3).wipe hL
            exact h _ P' H' A4 a4
          | rt d ρ2 =>
            rw [hT] at h
            intro v σ' P' H' A' B b3 q1 q2 q3
            obtain ⟨A4, a4, s4⟩ := (a12.trans st.und b3).wipe hL
            obtain ⟨n1, n2, n3⟩ := List.nodup_append.mp q2
            exact h v _ P' H' A4 B a4 q1 (List.nodup_append.mpr ⟨n1, a4.st.nd, fun x hx y hy => n3 x hx y (s4 y hy)⟩) (a12.newB st.und q3)
      · subst hbf
        simp only at h
        exact h (.ref D') dx σ1 P1 H1 A1 a ⟨c, ns, ds, D', rfl, gc, rfl, xf⟩
def hdGo (ρ : Env) (x : D) (c : Str) : List (List (Str × Bool) × (Env → SRes)) → SRes
  | [] => .exc x ρ
  | (subs, T) :: r => match subGo subs c with
    | some true => (match T ρ with
      | .exc _ _ => .bad
      | z => z)
    | some false => hdGo ρ x c r
    | none => .bad
def sTryH (hs : List (List (Str × Bool) × (Env → SRes))) (S : Env → SRes) : Env → SRes := fun ρ => match S ρ with
  | .exc (.exn c ns ds) ρ1 => hdGo ρ1 (.exn c ns ds) c hs
  | .exc _ _ => .bad
  | r => r
inductive HOk (X : Cx) (L : List Nat) : List ExceptHandler → List (List (Str × Bool) × (Env → SRes)) → List (Value × (Addr → Value → Option Addr → TS)) → Prop
  | nil : HOk X L [] [] []
  | cons {x : Str} {subs : List (Str × Bool)} {T : Env → SRes} {b₀ : Stmt} {suite : List Stmt} {np pos' : Pos} {hds : List ExceptHandler} {C : Addr} {l : List (List (Str × Bool) × (Env → SRes))} {l' : List (Value × (Addr → Value → Option Addr → TS))} (hg : Gl X x) (hdb : (x == ("__debug__" : Str)) = false) (gC : X.mg x = some (.ref C)) (hsub : ∀ c b, (c, b) ∈ subs → ∃ D, X.mg c = some (.ref D) ∧ PySem.W.exmOne X.K (.ref D) (.ref C) = some b)
      (hsu : ∀ (a : Addr) (pn : List (Addr × Obj)), SsOk (X.suite a pn) WF L (b₀ :: suite) T) (r : HOk X L hds l l') : HOk X L (.ExceptHandler (some (.Name x np)) none (b₀ :: suite) pos' :: hds) ((subs, T) :: l) ((.ref C, fun _ _ _ => tS (gd X) WF L T) :: l')
theorem HOk.hds {hds : List ExceptHandler} {l : List (List (Str × Bool) × (Env → SRes))} {l' : List (Value × (Addr → Value → Option Addr → TS))} (h : HOk X L hds l l') : HdsOk X hds l' := by
  induction h with
  | nil => exact .nil
  | cons hg hdb gC hsub hsu r ih => exact .cons ⟨hg, hdb, .inl gC⟩ (fun a oe cls d pn _ _ => (hsu a _).pss) ih
inductive HsOk (X : Cx) (L : List Nat) : List ExceptHandler → List (List (Str × Bool) × (Env → SRes)) → Prop
  | nil : HsOk X L [] []
  | cons {x : Str} {subs : List (Str × Bool)} {T : Env → SRes} {b₀ : Stmt} {suite : List Stmt} {np pos' : Pos} {hds : List ExceptHandler} {l : List (List (Str × Bool) × (Env → SRes))} (hsub : SubOk X.K X.mg x subs) (hsu : ∀ (a : Addr) (pn : List (Addr × Obj)), SsOk (X.suite a pn) WF L (b₀ :: suite) T) (r : HsOk X L hds l) (hg : Gl X x := by rfl) (hdb : (x == ("__debug__" : Str)) = false := by decide) :
      HsOk X L (.ExceptHandler (some (.Name x np)) none (b₀ :: suite) pos' :: hds) ((subs, T) :: l)
theorem HsOk.h {hds : List ExceptHandler} {l : List (List (Str × Bool) × (Env → SRes))} (h : HsOk X L hds l) : ∃ l', HOk X L hds l l' := by
  induction h with
  | nil => exact ⟨[], .nil⟩
  | cons hsub hsu r hg hdb ih =>
    obtain ⟨l', q⟩ := ih
    obtain ⟨C, gC, hC⟩ := hsub.ex
    exact ⟨_, .cons hg hdb gC hC hsu q⟩
theorem s_tryH {body : List Stmt} {h₀ : ExceptHandler} {hds : List ExceptHandler} {l : List (List (Str × Bool) × (Env → SRes))} {S : Env → SRes} (hs : X.stack = X.env :: X.outer) (hf : X.env.frame = some X.env.locals) (tk : Takes X W)
    (hb : ∀ (W : WX) (pn : List (Addr × Obj)) (xe : Value → Shared → Prop), Takes (X.tr pn xe) W → PassesOwn (model X.prog X.w) X.A X.env xe → SsOk (X.tr pn xe) W L body S) (hh : HsOk X L (h₀ :: hds) l) : SOk X W L (.Try body (h₀ :: hds) [] [] pos) (sTryH l S) := by
  obtain ⟨l', hq⟩ := hh.h
  clear hh
  refine ⟨PS.imp (ps_try_many (tb := fun W => tS (gd X) W L S) hs hf tk (fun W pn xe t p => (hb W pn xe t p).pss) hq.hds) fun Dn σ H h0 => ?_⟩
  obtain ⟨P, ρ, A, st, h⟩ := h0
  refine ⟨P, ρ, A, st, ?_⟩
  unfold sTryH at h
  cases hS : S ρ with
  | bad => simp only [hS] at h
  | nx ρ1 => simp only [hS] at h; exact h
  | rt d ρ1 => simp only [hS] at h; exact h
  | bk ρ1 => simp only [hS] at h; exact h
  | exc z ρ1 =>
    simp only [hS] at h
    intro cls dx σ1 P1 H1 A1 a xr
    obtain ⟨c, ns, ds, Cc, rfl, gc, rfl, xf⟩ := xr
    simp only at h
    clear hS
    revert h
    generalize h₀ :: hds = hd at hq
    intro h
    clear hb
    induction hq with
    | nil => simp only [hdGo] at h; exact h (.ref Cc) dx σ1 P1 H1 A1 a ⟨c, ns, ds, Cc, rfl, gc, rfl, xf⟩
    | @cons x0 subs T b₀ suite np pos0 hds C l l1 hg0 hdb gC hsub hsu r ih =>
      simp only [hdGo] at h
      cases hg : subGo subs c with
      | none => rw [hg] at h; exact h.elim
      | some b =>
        rw [hg] at h
        obtain ⟨D', gD, em⟩ := hsub c b (subGo_mem hg)
        have : D' = Cc := by
          have := gD.symm.trans gc
          cases this; rfl
        subst this
        refine ⟨b, em, fun hbt ad hn => ?_, fun hbf => ?_⟩
        · subst hbt
          simp only at h
          refine ⟨P1, ρ1, A1, a.st, ?_⟩
          cases hT : T ρ1 with
          | bad => rw [hT] at h; exact h.elim
          | exc y ρ2 => rw [hT] at h; exact h.elim
          | nx ρ2 => rw [hT] at h; exact fun σ' P' H' A' b3 => h _ _ _ _ (a.trans st.und b3)
          | bk ρ2 => rw [hT] at h; exact fun σ' P' H' A' b3 => h _ _ _ _ (a.trans st.und b3)
          | rt d ρ2 => rw [hT] at h; exact fun v σ' P' H' A' B b3 q1 q2 q3 => h v _ _ _ _ B (a.trans st.und b3) q1 q2 (a.newB st.und q3)
        · subst hbf
          simp only at h
          exact ih h
end
end RL
namespace RL
open PySem PySem.Spec PyProof.Rows L2
structure IsObj (K : PySem.W.Frag) (mg : Str → Option Value) (h : Str) (tab : List (Str × Bool)) : Prop where
  ex : ∃ D, mg h = some (.ref D) ∧ ∀ c b, (c, b) ∈ tab → ∃ C, mg c = some (.ref C) ∧ Cls K C ∧ PySem.W.findIn K (.ref C) "__class__" = some (some (.builtin "object.__class__")) ∧
    PySem.W.specialIn K (.builtin "object.__class__") "__get__" = some (some (.builtin "getset_descriptor.__get__")) ∧ PySem.W.takesIn K (.builtin "object.__class__") = some true ∧ PySem.W.mroIn K C (.type "object") = some true ∧ PySem.W.kitOne K (.ref C) (.ref D) = some b
structure IsExc (K : PySem.W.Frag) (mg : Str → Option Value) (u : Value) (tab : List (Str × Bool)) : Prop where
  ex : ∀ c b, (c, b) ∈ tab → ∃ C, mg c = some (.ref C) ∧ ExcC K C ∧ PySem.W.kitOne K (.ref C) u = some b
def fIsExc (tab : List (Str × Bool)) : D → Option D
  | .exn c ns _ => if ns = [] then (subGo tab c).map .bl else none
  | _ => none
section
variable {X : Cx} {W : WX} {e : Expr} {S : Env → Res D} {x : Str} {p p2 pos : Pos} {tab : List (Str × Bool)}
theorem Under.ext {P H : Hp} (u : Under P H) {a : Addr} {φ : Heap → Prop} (h : P a = some (.ext φ)) : H a = some (.ext φ) := by
  rcases u _ _ h with z | ⟨_, _, z, _⟩ | ⟨_, _, z, _⟩
  · exact z
  · cases z
  · cases z
def rIsX (K : PySem.W.Frag) : List V → Hp → VK → Prop := fun xs H Q => ∃ (a C : Addr) (c : V) (cv : Value) (b : Bool), xs = [.ref a, c] ∧ H a = some (ExT (.ref C) none a) ∧ ExcC K C ∧ (∀ u, RelV c u → u = cv) ∧ PySem.W.kitOne K (.ref C) cv = some b ∧ Q (.bl b) H
theorem call_isX : CallR X (.builtin "isinstance") (rIsX X.K) := by
  intro pins s σ H xs us Q I r h
  obtain ⟨a, Cc, c, cv, b, rfl, hH, C, hcv, hk, q⟩ := h
  cases r with
  | cons rx rr =>
    cases rr with
    | cons rt rr =>
      cases rr
      cases rx
      have ec := hcv _ rt
      subst ec
      obtain ⟨⟨oe, vs, hget, hc, hd, hv⟩, _, _⟩ := I.hok a _ hH
      have J : PySem.W.InstAt s.heap a oe Cc none := by
        obtain ⟨oc, od, oda, osl⟩ := oe
        dsimp only at hc hd hv
        subst hc hd hv
        exact ⟨hget, rfl, rfl, trivial⟩
      exact PySem.W.kia_one (PySem.W.handS_kitx_exc C.hg C.hk C.hs C.hd C.ha C.hn C.ht C.hm) I.kIn J hk (fun z => nomatch z) fun tk => ⟨.bl b, H, I.kept (t' := tk) fun _ _ z => z, rfl, q⟩
theorem isExc_post {u : Value} {c : V} (T : IsExc X.K X.mg u tab) (hc : ∀ w, RelV c w → w = u) {P H P1 H1 : Hp} {ρ : Env} {Q : VK} {d : D} {v : V} {B : List Addr} (e1 : Ext P H P1 H1 []) (r : Rel (gd X) P1 H1 v d B) (h : match opt (fIsExc tab d) with
      | .ok d => Post (gd X) P H Q d
      | .exc x => PostX (gd X) P H W σ x
      | .bad => False) : rIsX X.K [v, c] H1 Q := by
  cases d with
  | exn cn ns ds =>
    simp only [fIsExc] at h
    by_cases hns : ns = []
    · rw [if_pos hns] at h
      cases ht : subGo tab cn with
      | none => simp only [ht, Option.map, opt] at h
      | some b =>
        simp only [ht, Option.map, opt] at h
        obtain ⟨C, gC, xc, hk⟩ := T.ex cn b (subGo_mem ht)
        cases r with
        | @exn a C' dx cn ns ds mg hP xf =>
          have : C' = C := by
            have := mg.symm.trans gC
            cases this; rfl
          subst this
          have hdx : dx = none := by
            rcases xf with ⟨_, _, z⟩ | ⟨z, _⟩
            · exact z
            · exact absurd hns z
          subst hdx
          exact ⟨a, C', c, u, b, rfl, e1.und.ext hP, xc, hc, hk, h _ P1 H1 [] e1 (.bl b) Fresh.nil⟩
    · rw [if_neg hns] at h; exact h.elim
  | _ => simp [fIsExc, opt] at h
theorem e_isExc (hmg : ∃ D, X.mg x = some (.ref D) ∧ IsExc X.K X.mg (.ref D) tab) (hm : X.mg "isinstance" = none) (he : BOk X W e S) (hg : Gl X "isinstance" := by rfl) (hg2 : Gl X x := by rfl) (hdb : (x == ("__debug__" : Str)) = false := by decide)
    (hs : starEach [e, .Name x p2] X.env = (false, eval e X.env) :: starEach [.Name x p2] X.env := by rfl) (hpl : (backTo pos (starEach [.Name x p2] X.env)).any (·.1) = false := by rfl) :
    EOk X W (.Call (.Name "isinstance" p) [e, .Name x p2] [] pos) (s1 (fIsExc tab) S) := by
  obtain ⟨Dc, gD, T⟩ := hmg
  exact ⟨PE.imp (pe_callB call_isX hg hm (by decide +kernel) (pa_cons he.pe (pa_cons (pe_glob (v := .ref Dc) hg2 gD rfl hdb) pa_nil) hs) (by decide) (by decide) hs hpl) fun σ H Q ⟨P, ρ, A, st, h⟩ => ⟨P, ρ, A, st, by
    unfold s1 at h
    cases hsS : S ρ with
    | bad => simp only [hsS, Res.bind] at h
    | exc x => simp only [hsS, Res.bind] at h; exact h
    | ok d =>
      simp only [hsS, Res.bind] at h
      intro v P1 H1 B e1 r o
      exact isExc_post (W := W) (ρ := ρ) (σ := σ) (c := .ref Dc) T (fun w z => z) e1 r h⟩⟩
theorem e_isExcTy (ty : String) (T : IsExc X.K X.mg (.type ty) tab) (hm : X.mg "isinstance" = none) (hm2 : X.mg x = none) (hv : bootBuiltins x = some (.type ty)) (he : BOk X W e S) (hg : Gl X "isinstance" := by rfl) (hg2 : Gl X x := by rfl) (hn : x ≠ "__name__" := by decide) (hdb : (x == ("__debug__" : Str)) = false := by decide)
    (hs : starEach [e, .Name x p2] X.env = (false, eval e X.env) :: starEach [.Name x p2] X.env := by rfl) (hpl : (backTo pos (starEach [.Name x p2] X.env)).any (·.1) = false := by rfl) :
    EOk X W (.Call (.Name "isinstance" p) [e, .Name x p2] [] pos) (s1 (fIsExc tab) S) :=
  ⟨PE.imp (pe_callB call_isX hg hm (by decide +kernel) (pa_cons he.pe (pa_cons (pe_bltn (v := .ty ty) hg2 hm2 hv rfl hn hdb) pa_nil) hs) (by decide) (by decide) hs hpl) fun σ H Q ⟨P, ρ, A, st, h⟩ => ⟨P, ρ, A, st, by
    unfold s1 at h
    cases hsS : S ρ with
    | bad => simp only [hsS, Res.bind] at h
    | exc x => simp only [hsS, Res.bind] at h; exact h
    | ok d =>
      simp only [hsS, Res.bind] at h
      intro v P1 H1 B e1 r o
      exact isExc_post (W := W) (ρ := ρ) (σ := σ) (c := .ty ty) T (fun w z => z) e1 r h⟩⟩
end
end RL
namespace RL
open PySem PySem.Spec PyProof.Rows L2
def putKs (k : Key) (ks : List Key) : List Key := match ixOf ks k with
  | some _ => ks
  | none => ks ++ [k]
def putVs {α : Type} (k : Key) (d : α) (ks : List Key) (ds : List α) : List α := match ixOf ks k with
  | some j => ds.set j d
  | none => ds ++ [d]
theorem ixOf_none {ks : List Key} {k : Key} : ixOf ks k = none ↔ k ∉ ks := by
  induction ks with
  | nil => simp [ixOf]
  | cons g ks ih =>
    simp only [ixOf, List.mem_cons, not_or]
    by_cases e : g = k
    · simp [e]
    · simp only [e, if_false, Option.map_eq_none_iff, ih]
      exact ⟨fun h => ⟨fun z => e z.symm, h⟩, fun h => h.2⟩
theorem ixOf_some {ks : List Key} {k : Key} {j : Nat} (h : ixOf ks k = some j) : j < ks.length ∧ ks[j]? = some k := by
  induction ks generalizing j with
  | nil => simp [ixOf] at h
  | cons g ks ih =>
    simp only [ixOf] at h
    by_cases e : g = k
    · simp [e] at h
      subst h
      simp [e]
    · simp only [e, if_false, Option.map_eq_some_iff] at h
      obtain ⟨m, h, rfl⟩ := h
      obtain ⟨h1, h2⟩ := ih h
      exact ⟨by simpa using h1, by simpa using h2⟩
theorem putKs_nodup {k : Key} {ks : List Key} (h : ks.Nodup) : (putKs k ks).Nodup := by
  unfold putKs
  cases e : ixOf ks k with
  | some j => exact h
  | none =>
    have := ixOf_none.mp e
    exact List.nodup_append.mpr ⟨h, by simp, fun a ha b hb z => by simp at hb; subst hb; subst z; exact this ha⟩
theorem putKs_len {k : Key} {ks : List Key} {α : Type} {d : α} {ds : List α} (h : ks.length = ds.length) : (putKs k ks).length = (putVs k d ks ds).length := by
  unfold putKs putVs
  cases e : ixOf ks k <;> simp [h]
theorem zip_any {k : Key} : ∀ {ks : List Key} {vs : List V}, ks.length = vs.length → ((ks.zip vs).any fun kv => decide (kv.1 = k)) = (ixOf ks k).isSome
  | [], _, _ => by simp [ixOf]
  | _ :: _, [], h => by simp at h
  | g :: ks, w :: vs, h => by
    rw [List.zip_cons_cons, List.any_cons, zip_any (by simpa using h)]
    simp only [ixOf]
    by_cases e : g = k
    · simp [e]
    · simp [e]
theorem zip_same {k : Key} {v : V} : ∀ (ks : List Key) (vs : List V), k ∉ ks → (ks.zip vs).map (fun kv => if kv.1 = k then (kv.1, v) else kv) = ks.zip vs
  | [], _, _ => rfl
  | _ :: _, [], _ => rfl
  | a :: ks, b :: vs, hn => by
    simp only [List.mem_cons, not_or] at hn
    rw [List.zip_cons_cons, List.map_cons, if_neg fun z => hn.1 z.symm, zip_same ks vs hn.2]
theorem zip_map {k : Key} {v : V} : ∀ {ks : List Key} {vs : List V} {j : Nat}, ks.Nodup → ks.length = vs.length → ixOf ks k = some j → (ks.zip vs).map (fun kv => if kv.1 = k then (kv.1, v) else kv) = ks.zip (vs.set j v)
  | [], _, _, _, _, h => by simp [ixOf] at h
  | _ :: _, [], _, _, h, _ => by simp at h
  | g :: ks, w :: vs, j, nd, hl, h => by
    obtain ⟨n1, n2⟩ := List.nodup_cons.mp nd
    simp only [ixOf] at h
    by_cases e : g = k
    · simp only [e, if_true, Option.some.injEq] at h
      subst h
      subst e
      rw [List.zip_cons_cons, List.map_cons, if_pos rfl, zip_same ks vs n1]
      rfl
    · simp only [e, if_false, Option.map_eq_some_iff] at h
      obtain ⟨m, h, rfl⟩ := h
      rw [List.zip_cons_cons, List.map_cons, if_neg e, zip_map n2 (by simpa using hl) h]
      rfl
theorem putK_zip {k : Key} {v : V} {ks : List Key} {vs : List V} (nd : ks.Nodup) (hl : ks.length = vs.length) : putK (ks.zip vs) k v = (putKs k ks).zip (putVs k v ks vs) := by
  unfold putK putKs putVs
  rw [zip_any hl]
  cases h : ixOf ks k with
  | some j => simp only [Option.isSome_some, if_true]; exact zip_map nd hl h
  | none =>
    simp only [Option.isSome_none, Bool.false_eq_true, if_false]
    rw [List.zip_append hl]
    rfl
theorem RelL.putV {G : Gd} {P H : Hp} {k : Key} {v : V} {d : D} {Bv : List Addr} (r : Rel G P H v d Bv) {ks : List Key} {vs : List V} {ds : List D} {B : List Addr} (t : RelL G P H vs ds B) (hl : ks.length = vs.length) :
    ∃ B1, RelL G P H (putVs k v ks vs) (putVs k d ks ds) B1 ∧ ∃ R, B1.Perm (Bv ++ R) ∧ R.Sublist B := by
  unfold putVs
  cases e : ixOf ks k with
  | none => exact ⟨B ++ Bv, t.snoc r, B, List.perm_append_comm, List.Sublist.refl _⟩
  | some j =>
    simp only
    obtain ⟨h1, h2⟩ := ixOf_some e
    have hj : j < ds.length := by rw [← t.length, ← hl]; exact h1
    clear e h1 h2 hl
    induction t using RelL.rec (motive_1 := fun _ _ _ _ => True) generalizing j with
    | nil => simp at hj
    | @cons v0 d0 A0 vs ds B0 r0 t _ ih =>
      cases j with
      | zero => exact ⟨Bv ++ B0, .cons r t, B0, .refl _, List.sublist_append_right _ _⟩
      | succ j =>
        obtain ⟨B1, q, R, p, s⟩ := ih j (by simpa using hj)
        exact ⟨A0 ++ B1, .cons r0 q, A0 ++ R, (p.append_left A0).trans (List.perm_append_comm_assoc ..), List.Sublist.append_left s A0⟩
    | _ => trivial
section
variable {X : Cx} {W : WX} {L : List Nat} {e a b o : Expr} {pos apos cpos : Pos} {Sa Sb S : Env → Res D} {Pl : Env → Res Plc}
def putD (k : D) (d : D) : D → Option D
  | .dct true ks ds => (keyOf k).bind fun k => if ks.length < sizeLine ∧ ks.Nodup then some (.dct true (putKs k ks) (putVs k d ks ds)) else none
  | _ => none
def sPutD (fz : Bool) (Pl : Env → Res Plc) (Sk Se : Env → Res D) : Env → SRes := fun ρ => match Se ρ with
  | .ok d => (match Pl ρ with
    | .ok p => (match Sk ρ with
      | .ok k => (match putD k (if fz then d.frz else d) p.at_ with
        | some d' => .nx (p.set d')
        | none => .bad)
      | .exc x => .exc x ρ
      | .bad => .bad)
    | .exc x => .exc x ρ
    | .bad => .bad)
  | .exc x => .exc x ρ
  | .bad => .bad
theorem key_rel {P H : Hp} {v : V} {d : D} {B : List Addr} {k : Key} (r : Rel (gd X) P H v d B) (h : keyOf d = some k) : v = kV k := by
  cases r <;> simp [keyOf] at h <;> subst h <;> rfl
def mkD : List D → List Key → List D → Option D
  | [], ks, ds => some (.dct true ks ds)
  | .tup [k, d] :: r, ks, ds => (keyOf k).bind fun k => mkD r (putKs k ks) (putVs k d ks ds)
  | _, _, _ => none
def fDict : D → Option D
  | .lst _ ps => mkD ps [] []
  | _ => none
theorem mk_rel {P H : Hp} (un : Under P H) : ∀ {xs : List V} {ps : List D} {A : List Addr} {ks : List Key} {vs : List V} {ds : List D} {B : List Addr} {z : D}, RelL (gd X) P H xs ps A → RelL (gd X) P H vs ds B → ks.Nodup → ks.length = vs.length → mkD ps ks ds = some z →
    ∃ (as : List Addr) (kvs : List (Key × V)) (ks' : List Key) (vs' : List V) (ds' : List D) (C : List Addr), xs = as.map V.ref ∧ Paired (fun p (kv : Key × V) => SqT X.K H p [kV kv.1, kv.2]) as kvs ∧ mergeK (ks.zip vs) kvs = ks'.zip vs' ∧ ks'.length = vs'.length ∧ z = .dct true ks' ds' ∧ RelL (gd X) P H vs' ds' C ∧ (∀ b ∈ C, b ∈ A ∨ b ∈ B) ∧ ((A ++ B).Nodup → C.Nodup)
  | _, _, _, ks, vs, ds, B, z, .nil, t, nd, hl, h => by
    simp only [mkD, Option.some.injEq] at h
    subst h
    exact ⟨[], [], ks, vs, ds, B, rfl, .nil, rfl, hl, rfl, t, fun b hb => .inr hb, fun n => n⟩
  | _, _, _, ks, vs, ds, B, z, .cons (v := x) (d := p) (A := A1) (vs := xs) (ds := ps) (B := B1) r r', t, nd, hl, h => by
    cases r with
    | @tup a ws ds0 A0 hP rp =>
      cases rp with
      | nil => simp [mkD] at h
      | @cons wk dk Ak ws1 ds1 B2 rk rp1 =>
        cases rp1 with
        | nil => simp [mkD] at h
        | @cons wv dv Av ws2 ds2 B3 rv rp2 =>
          cases rp2 with
          | cons _ _ => simp [mkD] at h
          | nil =>
            simp only [mkD] at h
            cases hk : keyOf dk with
            | none => rw [hk] at h; cases h
            | some k =>
              rw [hk] at h
              simp only [Option.bind_some] at h
              obtain ⟨Bq, q1, R1, p1, s1⟩ := RelL.putV (k := k) rv t hl
              obtain ⟨as, kvs, ks', vs', ds', C, h1, h2, h3, h4, h5, h6, h7, h8⟩ := mk_rel un r' q1 (putKs_nodup nd) (putKs_len hl) h
              have ek := key_rel rk hk
              subst ek
              refine ⟨a :: as, (k, wv) :: kvs, ks', vs', ds', C, by rw [h1]; rfl, .cons (un.seqT hP) h2, ?_, h4, h5, h6, ?_, ?_⟩
              · show mergeK (putK (ks.zip vs) k wv) kvs = _
                rw [putK_zip nd hl]
                exact h3
              · intro b hb
                rcases h7 b hb with z | z
                · exact .inl (List.mem_append_right _ z)
                · rcases List.mem_append.mp (p1.subset z) with z | z
                  · exact .inl (List.mem_append_left _ (List.mem_append_right _ (by simpa using z)))
                  · exact .inr (s1.subset z)
              · intro nn
                obtain ⟨m1, m2, m3⟩ := List.nodup_append.mp nn
                obtain ⟨m4, m5, m6⟩ := List.nodup_append.mp m1
                rw [List.append_nil] at m4 m6
                obtain ⟨_, m7, _⟩ := List.nodup_append.mp m4
                refine h8 (List.nodup_append.mpr ⟨m5, p1.nodup_iff.mpr (List.nodup_append.mpr ⟨m7, m2.sublist s1, fun x hx y hy => m3 x (by simp [hx]) y (s1.subset hy)⟩), fun x hx y hy => ?_⟩)
                rcases List.mem_append.mp (p1.subset hy) with z | z
                · exact fun w => m6 y (List.mem_append_right _ z) x hx w.symm
                · exact m3 x (List.mem_append_right _ hx) y (s1.subset z)
    | _ => simp [mkD] at h
theorem e_dict {p : Pos} (hc : X.calm = true) (hm : X.mg "dict" = none) (he : EOk X W e S) (hg : Gl X "dict" := by rfl) (hs : starEach [e] X.env = (false, eval e X.env) :: starEach [] X.env := by rfl) (hpl : (backTo pos (starEach [] X.env)).any (·.1) = false := by rfl) :
    EOk X W (.Call (.Name "dict" p) [e] [] pos) (s1 fDict S) := ⟨PE.imp (pe_callTy (call_dictP hc) hg hm (by decide +kernel) (pa_cons he.pe pa_nil hs) (by decide) (by decide) hs hpl) fun σ H Q ⟨P, ρ, A, st, h⟩ => ⟨P, ρ, A, st, by
  unfold s1 at h
  cases hsS : S ρ with
  | bad => simp only [hsS, Res.bind] at h
  | exc x => simp only [hsS, Res.bind] at h; exact h
  | ok d =>
    simp only [hsS, Res.bind] at h
    intro v P1 H1 B e1 r fr
    cases hf : fDict d with
    | none => simp only [hf, opt] at h
    | some z =>
      simp only [hf, opt] at h
      have go : ∀ {a : Addr} {xs : List V} {ps : List D} {B0 : List Addr}, v = .ref a → H1 a = some (.lst xs) → RelL (gd X) P1 H1 xs ps B0 → (∀ b ∈ B0, b ∈ B) → B0.Nodup → mkD ps [] [] = some z →
          ∃ (a : Addr) (ps : List Addr) (kvs : List (Key × V)), [v] = [V.ref a] ∧ SqL X.K H1 a (ps.map V.ref) ∧ Paired (fun p (kv : Key × V) => SqT X.K H1 p [kV kv.1, kv.2]) ps kvs ∧ ∀ p, H1 p = none → Q (.ref p) (upd H1 p (.dK (mergeK [] kvs))) := by
        intro a xs ps B0 ev hH rl sub nd hmk
        obtain ⟨as, kvs, ks', vs', ds', C, h1, h2, h3, h4, h5, h6, h7, h8⟩ := mk_rel e1.und rl (ks := []) (vs := []) .nil List.nodup_nil rfl hmk
        rw [List.append_nil] at h8
        subst h1
        subst h5
        refine ⟨a, as, kvs, by rw [ev], SqL.of hH, h2, fun p hp => ?_⟩
        have h3' : mergeK [] kvs = ks'.zip vs' := h3
        rw [h3']
        have o1 : ∀ b ∈ C, b ∈ B := fun b hb => sub b ((h7 b hb).resolve_right (by simp))
        have nC : C.Nodup := h8 nd
        have np : p ∉ C := fun z => by
          obtain ⟨w, q⟩ := h6.at p z
          rw [hp] at q; cases q
        have e2 := ext_own (o := .dK (ks'.zip vs')) e1.und hp
        have off : ∀ b ∈ C, P1 b = none := fun b hb => (fr.2 b (o1 b hb)).2
        refine h _ _ _ (p :: C) (e1.trans st.und e2) (.dctO upd_same h4 (h6.ext e2 off)) ⟨List.nodup_cons.mpr ⟨np, nC⟩, fun b hb => ?_⟩
        rcases List.mem_cons.mp hb with rfl | hb
        · exact ⟨e1.free st.und hp, e1.und.free hp⟩
        · exact fr.2 b (o1 b hb)
      cases r with
      | @lstF a xs ps hP rl => exact go rfl (e1.und.lst hP) rl (fun b hb => by simp at hb) List.nodup_nil (by simpa [fDict] using hf)
      | @lstO a xs ps B0 hH rl => exact go rfl hH rl (fun b hb => List.mem_cons_of_mem _ hb) (List.nodup_cons.mp fr.1).2 (by simpa [fDict] using hf)
      | _ => simp [fDict] at hf⟩⟩
end
end RL
namespace RL
open PySem PySem.Spec PyProof.Rows L2
section
variable {X : Cx} {W : WX} {L : List Nat} {e a b o : Expr} {pos apos cpos : Pos} {Sa Sb S : Env → Res D} {Pl : Env → Res Plc} {k : Nat}
def fIn : D → D → Option Bool
  | .str x, .str z => if x.cps.size = 1 then some (decide (x.cps.getD 0 0 ∈ z.cps.toList)) else none
  | d, .lst o ds => match d.flat?, ds.mapM D.flat? with
    | some v, some vs => some (inV v vs)
    | _, _ => if d.fit = true ∧ (D.lst o ds).fit = true then some (ds.any fun z => PyData.eqv z.py d.py) else none
  | d, .tup ds => match d.flat?, ds.mapM D.flat? with
    | some v, some vs => some (inV v vs)
    | _, _ => none
  | d, .dct _ ks _ => (keyOf d).map fun k => (ixOf ks k).isSome
  | _, _ => none
def oIn : D → D → Option D := fun x y => (fIn x y).map .bl
def oNotIn : D → D → Option D := fun x y => (fIn x y).map fun b => .bl (!b)
theorem flat_rel {G : Gd} {P H : Hp} {v w : V} {d : D} {B : List Addr} (r : Rel G P H v d B) (h : d.flat? = some w) : v = w ∧ flatV v = true := by
  cases r <;> simp only [D.flat?, Option.some.injEq, reduceCtorEq] at h <;> subst h <;> exact ⟨rfl, rfl⟩
theorem flats_rel {G : Gd} {P H : Hp} : ∀ {vs ws : List V} {ds : List D} {B : List Addr}, RelL G P H vs ds B → ds.mapM D.flat? = some ws → vs = ws ∧ vs.all flatV = true
  | _, ws, _, _, .nil, h => by
    have h' : ws = [] := by simpa using h.symm
    subst h'
    exact ⟨rfl, rfl⟩
  | _, ws, _, _, .cons (d := d) (ds := ds) r t, h => by
    rw [List.mapM_cons] at h
    cases hd : d.flat? with
    | none => rw [hd] at h; cases h
    | some u =>
      rw [hd] at h
      cases ht : ds.mapM D.flat? with
      | none => rw [ht] at h; cases h
      | some us =>
        rw [ht] at h
        obtain rfl : u :: us = ws := Option.some.inj h
        obtain ⟨h1, h2⟩ := flat_rel r hd
        obtain ⟨h3, h4⟩ := flats_rel t ht
        subst h1 h3
        exact ⟨rfl, by simp [h2, h4]⟩
theorem OpR.or' {X : Cx} {f : Value → Value → Sem Value} {r r' : R2} (h : OpR X f r) (h' : OpR X f r') : OpR X f fun x y H Q => r x y H Q ∨ r' x y H Q := by
  intro pins s σ H x y v u Q I rx ry q
  rcases q with q | q
  · exact h pins s σ H x y v u Q I rx ry q
  · exact h' pins s σ H x y v u Q I rx ry q
theorem OpR.imp {X : Cx} {f : Value → Value → Sem Value} {r r' : R2} (h : OpR X f r) (i : ∀ x y H Q, r' x y H Q → r x y H Q) : OpR X f r' := fun pins s σ H x y v u Q I rx ry q => h pins s σ H x y v u Q I rx ry (i _ _ _ _ q)
def rInDict (neg : Bool) : R2 := fun x y H Q => ∃ a o, y = .ref a ∧ DGet H a x o ∧ Q (.bl (if neg then !o.isSome else o.isSome)) H
theorem op_inDict (hu : X.A.units + 1 < cLine) : OpR X (compareOp .In) (rInDict false) := by
  intro pins s σ H x y v u Q I rx ry h
  obtain ⟨a, o, rfl, g, q⟩ := h
  cases ry
  exact d_in hu I g rx fun s' I' => ⟨.bl o.isSome, H, I', rfl, q⟩
theorem op_notInDict (hu : X.A.units + 1 < cLine) : OpR X (compareOp .NotIn) (rInDict true) := by
  intro pins s σ H x y v u Q I rx ry h
  obtain ⟨a, o, rfl, g, q⟩ := h
  cases ry
  exact d_notIn hu I g rx fun s' I' => ⟨.bl (!o.isSome), H, I', rfl, q⟩
theorem one_sign {x : Str} (h : x.cps.size = 1) : x = ⟨#[x.cps.getD 0 0]⟩ := by
  obtain ⟨⟨l⟩⟩ := x
  cases l with
  | nil => simp at h
  | cons c l =>
    cases l with
    | nil => rfl
    | cons _ _ => simp at h
theorem in_ways (neg : Bool) {x y : V} {H : Hp} {Q : VK} {f : D → D → Option D} (hf : ∀ x y, f x y = (fIn x y).map fun b => .bl (if neg then !b else b)) (h : rD (gd X) f x y H Q) :
    (∃ (c : Nat) (z : Str), x = .str ⟨#[c]⟩ ∧ y = .str z ∧ Q (.bl (if neg then !decide (c ∈ z.cps.toList) else decide (c ∈ z.cps.toList))) H) ∨ rIn X.K neg x y H Q ∨ rInDict neg x y H Q ∨
      ∃ d ds, Dp X.K H x d ∧ Dp X.K H y (.list ds) ∧ SeqAt.shaped d = true ∧ SeqAt.shaped (.list ds) = true ∧ Q (.bl (if neg then !(ds.any fun z => PyData.eqv z d) else ds.any fun z => PyData.eqv z d)) H := by
  obtain ⟨P, dx, dy, Bx, By, un, r1, r2, o1, o2, h⟩ := h
  rw [hf] at h
  cases hb : fIn dx dy with
  | none => rw [hb] at h; exact h.elim
  | some b =>
    rw [hb] at h
    have q : Q (.bl (if neg then !b else b)) H := post_val un h (.bl _)
    have seq : ∀ {vs : List V} {ds : List D} {B : List Addr} {w : V} {ws : List V} {a : Addr}, y = .ref a → (SqL X.K H a vs ∨ SqT X.K H a vs) → RelL (gd X) P H vs ds B → dx.flat? = some w → ds.mapM D.flat? = some ws → b = inV w ws → rIn X.K neg x y H Q := by
      intro vs ds B w ws a ey hs rl hw hws eb
      obtain ⟨h1, h2⟩ := flat_rel r1 hw
      obtain ⟨h3, h4⟩ := flats_rel rl hws
      subst h1 h3 eb
      exact ⟨a, vs, ey, hs, h2, h4, q⟩
    cases dy with
    | str z =>
      cases r2
      cases dx with
      | str x' =>
        cases r1
        simp only [fIn] at hb
        split at hb
        · rename_i c
          cases hb
          exact .inl ⟨_, z, congrArg V.str (one_sign c), rfl, q⟩
        · cases hb
      | _ => simp [fIn] at hb
    | lst ob ds =>
      have hb' : (match dx.flat?, ds.mapM D.flat? with
        | some v, some vs => some (inV v vs)
        | _, _ => if dx.fit = true ∧ (D.lst ob ds).fit = true then some (ds.any fun z => PyData.eqv z.py dx.py) else none) = some b := by
        cases dx <;> exact hb
      obtain ⟨a, vs, B0, rfl, hq, rl⟩ : ∃ a vs B0, y = .ref a ∧ SqL X.K H a vs ∧ RelL (gd X) P H vs ds B0 := by
        cases r2 with
        | lstF hP rl => exact ⟨_, _, _, rfl, SqL.of (un.lst hP), rl⟩
        | lstO hH rl => exact ⟨_, _, _, rfl, SqL.of hH, rl⟩
      have deep : (if dx.fit = true ∧ (D.lst ob ds).fit = true then some (ds.any fun z => PyData.eqv z.py dx.py) else none) = some b → ∃ d es, Dp X.K H x d ∧ Dp X.K H (.ref a) (.list es) ∧ SeqAt.shaped d = true ∧ SeqAt.shaped (.list es) = true ∧ Q (.bl (if neg then !(es.any fun z => PyData.eqv z d) else es.any fun z => PyData.eqv z d)) H := by
        intro hd
        split at hd
        · rename_i c
          cases hd
          have r2' := r2.dp un c.2
          rw [D.py] at r2'
          have s2 := fit_ok c.2
          rw [D.py] at s2
          refine ⟨dx.py, pyL ds, r1.dp un c.1, r2', fit_ok c.1, s2, ?_⟩
          have e : (pyL ds).any (fun z => PyData.eqv z dx.py) = ds.any fun z => PyData.eqv z.py dx.py := by
            rw [pyL_eq, List.any_map]
            rfl
          rw [e]
          exact q
        · cases hd
      cases hw : dx.flat? with
      | none => rw [hw] at hb'; exact .inr (.inr (.inr (deep hb')))
      | some w =>
        cases hws : ds.mapM D.flat? with
        | none => rw [hw, hws] at hb'; exact .inr (.inr (.inr (deep hb')))
        | some ws =>
          rw [hw, hws] at hb'
          exact .inr (.inl (seq rfl (.inl hq) rl hw hws (Option.some.inj hb').symm))
    | tup ds =>
      have hb' : (match dx.flat?, ds.mapM D.flat? with
        | some v, some vs => some (inV v vs)
        | _, _ => none) = some b := by
        cases dx <;> exact hb
      cases r2 with
      | tup hP rl =>
        cases hw : dx.flat? with
        | none => rw [hw] at hb'; cases hb'
        | some w =>
          cases hws : ds.mapM D.flat? with
          | none => rw [hw, hws] at hb'; cases hb'
          | some ws =>
            rw [hw, hws] at hb'
            exact .inr (.inl (seq rfl (.inr (un.seqT hP)) rl hw hws (Option.some.inj hb').symm))
    | dct ob ks ds =>
      have hb' : ((keyOf dx).map fun k => (ixOf ks k).isSome) = some b := by cases dx <;> exact hb
      cases hk : keyOf dx with
      | none => rw [hk] at hb'; cases hb'
      | some k =>
        rw [hk] at hb'
        obtain ⟨d, vs, B, rfl, hdk, hl, rl, hB⟩ := dget_of un r2
        have hval : (valV (ks.zip vs) k).isSome = b := by
          rw [← Option.some.inj hb']
          show (valV (ks.zip vs) k).isSome = (ixOf ks k).isSome
          rw [← zip_any hl, valV_any]
        refine .inr (.inr (.inl ⟨d, valV (ks.zip vs) k, rfl, .inl ⟨_, k, hdk, key_rel r1 hk, rfl⟩, ?_⟩))
        rw [hval]
        exact q
    | _ => cases dx <;> simp [fIn] at hb
theorem o_in (hr : Room k X.A) : OpR X (compareOp .In) (rD (gd X) oIn) :=
  OpR.imp (OpR.or' op_in_sign (OpR.or' op_in_seq (OpR.or' (op_inDict (hu_of hr)) (op_inD (by have := hr.un; omega))))) fun x y H Q h => by
    have := in_ways false (f := oIn) (fun _ _ => rfl) h
    simpa only [Bool.false_eq_true, if_false, rInD] using this
theorem o_notin (hr : Room k X.A) : OpR X (compareOp .NotIn) (rD (gd X) oNotIn) :=
  OpR.imp (OpR.or' op_notIn_sign (OpR.or' op_notIn_seq (OpR.or' (op_notInDict (hu_of hr)) (op_notInD (by have := hr.un; omega))))) fun x y H Q h => by
    have := in_ways true (f := oNotIn) (fun _ _ => rfl) h
    simpa only [if_true, rNotInD] using this
def keyD : Key → D
  | .inl i => .int i
  | .inr x => .str x
theorem keyD_rel {G : Gd} {P H : Hp} (k : Key) : Rel G P H (kV k) (keyD k) [] := by
  cases k with
  | inl i => exact .int i
  | inr x => exact .str x
def valsD : D → Option (List D)
  | .dct _ _ ds => if cleanL ds = true then some ds else none
  | _ => none
def keysD : D → Option (List D)
  | .dct _ ks ds => if cleanL ds = true then some (ks.map keyD) else none
  | _ => none
def itemsL : List Key → List D → List D
  | k :: ks, d :: ds => .tup [keyD k, d] :: itemsL ks ds
  | _, _ => []
def itemsD : D → Option (List D)
  | .dct _ ks ds => if cleanL ds = true ∧ ks.length = ds.length then some (itemsL ks ds) else none
  | _ => none
def StayD (G : Gd) (P H : Hp) (a : Addr) (o : Obj) (ks : List Key) (vs : List V) (ds : List D) : Prop := P a = some (.dK (ks.zip vs)) ∧ ks.length = vs.length ∧ RelL G P H vs ds [] ∧ H a = some (.frz o (.dK (ks.zip vs)))
theorem StayD.ext {G : Gd} {P H P' H' : Hp} {A : List Addr} {a : Addr} {o : Obj} {ks : List Key} {vs : List V} {ds : List D} (e : Ext P H P' H' A) (h : StayD G P H a o ks vs ds) : StayD G P' H' a o ks vs ds :=
  ⟨e.same _ _ h.1, h.2.1, h.2.2.1.mono e.same (by simp), e.lck _ _ _ h.2.2.2⟩
theorem zip_get {ks : List Key} {vs : List V} {i : Nat} {k : Key} {v : V} (h : (ks.zip vs)[i]? = some (k, v)) : ks[i]? = some k ∧ vs[i]? = some v := List.getElem?_zip_eq_some.mp h
theorem it_vals {G : Gd} {a : Addr} {ob : Obj} {ks : List Key} {vs : List V} {ds : List D} : ItOk G false (Itd a ob (ks.zip vs)) ds fun P H => StayD G P H a ob ks vs ds where
  stay := fun P H P' H' A _ _ e h => h.ext e
  go := fun i P H u h hi => by
    obtain ⟨v, d, h1, h2, h3⟩ := h.2.2.1.at? hi
    have hl : (ks.zip vs).length = ds.length := by rw [List.length_zip, h.2.1, Nat.min_self, h.2.2.1.length]
    refine ⟨⟨h.2.2.2, by omega⟩, fun x H' hy => ?_⟩
    obtain ⟨e, k, y⟩ := hy
    subst e
    have q := (zip_get y).2
    rw [h1] at q
    cases q
    exact ⟨P, d, Ext.refl u, h2, h3⟩
  stop := fun i P H u h hi => ⟨h.2.2.2, by rw [List.length_zip, h.2.1, Nat.min_self, h.2.2.1.length]; exact hi⟩
theorem it_keys {G : Gd} {a : Addr} {ob : Obj} {ks : List Key} {vs : List V} {ds : List D} : ItOk G false (Itk a ob (ks.zip vs)) (ks.map keyD) fun P H => StayD G P H a ob ks vs ds where
  stay := fun P H P' H' A _ _ e h => h.ext e
  go := fun i P H u h hi => by
    rw [List.length_map] at hi
    have hl : (ks.zip vs).length = ks.length := by rw [List.length_zip, h.2.1, Nat.min_self]
    refine ⟨⟨h.2.2.2, by omega⟩, fun x H' hy => ?_⟩
    obtain ⟨e, k, v, y, ex⟩ := hy
    subst e ex
    refine ⟨P, keyD k, Ext.refl u, ?_, keyD_rel k⟩
    rw [List.getElem?_map, (zip_get y).1]
    rfl
  stop := fun i P H u h hi => ⟨h.2.2.2, by rw [List.length_zip, h.2.1, Nat.min_self, ← h.2.1]; simpa using hi⟩
theorem pe_lk {t : TE} (h : PE X e t) : PE X e fun σ H Q => t σ H fun x H1 => ∃ d kvs, x = .ref d ∧ ((∃ o, H1 d = some (.frz o (.dK kvs)) ∧ Q x H1) ∨ (H1 d = some (.dK kvs) ∧ ∀ od, Q x (upd H1 d (.frz od (.dK kvs))))) := by
  refine ⟨fun pins s σ H Q I hw => ?_⟩
  refine thn (h.run pins s σ H _ I hw) fun v s1 ⟨x, H1, I1, r, d, kvs, ex, q⟩ => ?_
  rcases q with ⟨o, hd, q⟩ | ⟨hd, q⟩
  · exact ⟨x, H1, I1, r, q⟩
  · obtain ⟨od, I2⟩ := I1.lock hd trivial
    exact ⟨x, _, I2, r, q od⟩
theorem dict_src {G : Gd} {P H P1 H1 : Hp} {B : List Addr} {v : V} {ob : Bool} {ks : List Key} {ds : List D} (un : Under P H) (e : Ext P H P1 H1 []) (r : Rel G P1 H1 v (.dct ob ks ds) B) (f : Fresh P1 H B) (hc : cleanL ds = true) :
    ∃ a vs P2, v = .ref a ∧ P2 a = some (.dK (ks.zip vs)) ∧ ks.length = vs.length ∧ RelL G P2 H1 vs ds [] ∧ Ext P H P2 H1 [] ∧ (H1 a = some (.dK (ks.zip vs)) ∨ ∃ o, H1 a = some (.frz o (.dK (ks.zip vs)))) := by
  cases r with
  | @dctF a ks vs ds hP hl rl =>
    refine ⟨a, vs, P1, rfl, hP, hl, rl, e, ?_⟩
    rcases e.und _ _ hP with z | ⟨o, _, _, z⟩ | ⟨_, _, z, _⟩
    · exact .inl z
    · exact .inr ⟨o, z⟩
    · cases z
  | @dctO a ks vs ds A0 hH hl rl =>
    have o : ∀ b ∈ [a], P1 b = none := fun b hb => by
      have hb : b = a := by simpa using hb
      subst hb
      exact (f.2 b List.mem_cons_self).2
    have g := give_ext (A := [a]) e.und o
    refine ⟨a, vs, give P1 H1 [a], rfl, by rw [give_in (by simp)]; exact hH, hl, (rl.nil_of hc).mono g.same (by simp), ⟨e.same.trans g.same, g.und, e.keep, e.lck, fun b w q => ?_⟩, .inl hH⟩
    rcases g.new b w q with z | z | z
    · exact e.new b w z
    · exact .inr (.inl (e.free un z))
    · have hb : b = a := by simpa using z
      subst hb
      exact .inr (.inl (f.2 b List.mem_cons_self).1)
theorem ext_lock {P H : Hp} {a : Addr} {kvs : List (Key × V)} (un : Under P H) (hP : P a = some (.dK kvs)) (hH : H a = some (.dK kvs)) (od : Obj) : Ext P H P (upd H a (.frz od (.dK kvs))) [] where
  same := Same.refl P
  und := fun b u q => by
    by_cases hb : b = a
    · subst hb
      rw [hP] at q
      cases q
      exact .inr (.inl ⟨od, kvs, rfl, upd_same⟩)
    · rw [upd_ne hb]; exact un b u q
  keep := fun b o q n _ => by
    have : b ≠ a := fun z => by rw [z, hP] at n; cases n
    rw [upd_ne this]; exact q
  lck := fun b o u q => by
    have : b ≠ a := fun z => by rw [z, hH] at q; cases q
    rw [upd_ne this]; exact q
  new := fun b o q => .inl q
theorem dict_walk {bor : Bool} {S : Env → Res D} {f : D → Option (List D)} {mk : Addr → Obj → List (Key × V) → It} (hf : ∀ d ds, f d = some ds → ∃ ob ks es, d = .dct ob ks es ∧ cleanL es = true ∧ ∀ G a o vs, ItOk G false (mk a o (ks.zip vs)) ds fun P H => StayD G P H a o ks vs es) {σ : Sl} {H : Hp} {R : It → Hp → Prop} (h : tI (gd X) W bor (fun ρ => (S ρ).bind fun d => opt (f d)) σ H R) :
    (tE (gd X) W S σ H fun x H1 => ∃ d kvs, x = .ref d ∧ ((∃ o, H1 d = some (.frz o (.dK kvs)) ∧ (fun (x : V) (H1 : Hp) => ∃ d o kvs, x = .ref d ∧ H1 d = some (.frz o (.dK kvs)) ∧ R (mk d o kvs) H1) x H1) ∨ (H1 d = some (.dK kvs) ∧ ∀ od, (fun (x : V) (H1 : Hp) => ∃ d o kvs, x = .ref d ∧ H1 d = some (.frz o (.dK kvs)) ∧ R (mk d o kvs) H1) x (upd H1 d (.frz od (.dK kvs)))))) := by
  obtain ⟨P, ρ, A, st, h⟩ := h
  refine ⟨P, ρ, A, st, ?_⟩
  cases hs : S ρ with
  | bad => simp only [hs, Res.bind] at h
  | exc x => simp only [hs, Res.bind] at h; exact h
  | ok d =>
    simp only [hs, Res.bind] at h
    cases hd : f d with
    | none => simp only [hd, opt] at h
    | some ds =>
      simp only [hd, opt] at h
      obtain ⟨ob, ks, es, rfl, hc, it⟩ := hf d ds hd
      intro v P1 H1 B e1 r fr
      obtain ⟨a, vs, P2, rfl, hP, hl, rl, e2, hH⟩ := dict_src st.und e1 r fr hc
      refine ⟨a, ks.zip vs, rfl, ?_⟩
      rcases hH with hH | ⟨o, hH⟩
      · refine .inr ⟨hH, fun od => ⟨a, od, ks.zip vs, rfl, upd_same, ?_⟩⟩
        have e3 := ext_lock e2.und hP hH od
        exact h (mk a od (ks.zip vs)) P2 _ (fun P H => StayD (gd X) P H a od ks vs es) (it (gd X) a od vs).any ⟨hP, hl, rl.mono (Same.refl _) (by simp), upd_same⟩ (e2.trans st.und e3)
      · exact .inl ⟨o, hH, a, o, ks.zip vs, rfl, hH, h (mk a o (ks.zip vs)) P2 _ (fun P H => StayD (gd X) P H a o ks vs es) (it (gd X) a o vs).any ⟨hP, hl, rl, hH⟩ e2⟩
def sVals (S : Env → Res D) : Env → Res (List D) := fun ρ => (S ρ).bind fun d => opt (valsD d)
def sItems (S : Env → Res D) : Env → Res (List D) := fun ρ => (S ρ).bind fun d => opt (itemsD d)
def sKeys (S : Env → Res D) : Env → Res (List D) := fun ρ => (S ρ).bind fun d => opt (keysD d)
theorem i_vals {bor : Bool} {tg : Expr} (he : EOk X W e S) (hbase : attributeBase e "values" X.env (eval e X.env) = eval e X.env := by rfl) (hline : (apos.endLine == cpos.line) = true := by rfl) : IOk X W bor tg (.Call (.Attribute e "values" apos) [] [] cpos) (sVals S) :=
  ⟨PI.imp (pi_values (pe_lk he.pe) hbase hline) fun σ H R h => dict_walk (mk := Itd) (fun d ds hd => by
    unfold valsD at hd
    split at hd
    · split at hd
      · rename_i c
        cases hd
        exact ⟨_, _, _, rfl, c, fun G a o vs => it_vals⟩
      · cases hd
    · cases hd) h⟩
theorem i_keys {bor : Bool} {tg : Expr} (he : EOk X W e S) : IOk X W bor tg e (sKeys S) :=
  ⟨PI.imp (pi_keys (pe_lk he.pe)) fun σ H R h => by
    have q := dict_walk (mk := Itk) (f := keysD) (S := S) (W := W) (fun d ds hd => by
      unfold keysD at hd
      split at hd
      · split at hd
        · rename_i c
          cases hd
          exact ⟨_, _, _, rfl, c, fun G a o vs => it_keys⟩
        · cases hd
      · cases hd) h
    obtain ⟨P, ρ, A, st, q⟩ := q
    refine ⟨P, ρ, A, st, ?_⟩
    cases hs : S ρ with
    | bad => rw [hs] at q; exact q
    | exc x => rw [hs] at q; exact q
    | ok d =>
      rw [hs] at q
      intro v P1 H1 B e1 r f
      obtain ⟨dd, kvs, ex, qq⟩ := q v P1 H1 B e1 r f
      refine ⟨dd, kvs, ex, ?_⟩
      rcases qq with ⟨o, h1, d', o', kvs', x', h2, hR⟩ | ⟨h1, hq⟩
      · exact .inl ⟨o, h1, d', o', x', .inl ⟨kvs', h2, hR⟩⟩
      · refine .inr ⟨h1, fun od => ?_⟩
        obtain ⟨d', o', kvs', x', h2, hR⟩ := hq od
        exact ⟨d', o', x', .inl ⟨kvs', h2, hR⟩⟩⟩
theorem call_listRd (hc : X.calm = true) : CallR X (.type "list") (fun xs H Q => ∃ p kvs, xs = [.ref p] ∧ Rd H p (.dK kvs) ∧ ∀ q, H q = none → Q (.ref q) (upd H q (.lst (kvs.map fun kv => kV kv.1)))) := by
  intro pins s σ H xs us Q I r h
  obtain ⟨p, kvs, e, hk, q⟩ := h
  subst e
  obtain ⟨u, eu, rx⟩ := vals1 r
  subst eu
  obtain rfl : u = Value.ref p := rx
  obtain ⟨z, lo, vs, rk, hd⟩ := (show ObjOk X.prog X.w H s.heap p (.dK kvs) from hk.ok I.hok)
  obtain ⟨ep, hat⟩ := hd.dictAt
  have hl : kvs.length = vs.length := Paired.length rk
  refine PySem.W.kdl_call (PySem.W.kdl_dict (knd := mixKind X.prog X.w) (kvs := vs) (ep := ep) lo) (I.ok.hd hc) hat (by rw [← hl]; exact z) fun h' tk acc' c' hkeep hS hacc => ?_
  refine ⟨.ref s.heap.objs.size, upd H s.heap.objs.size (.lst (kvs.map fun kv => kV kv.1)), I.laid hkeep (Nat.le_refl _) (show ObjOk X.prog X.w _ _ _ (.lst (kvs.map fun kv => kV kv.1)) from ⟨?_, acc'.toList, c', ?_, ?_⟩), rfl, q _ (I.hok.fresh (Nat.le_refl _))⟩
  · rw [List.length_map]; exact z
  · have el : acc'.toList.length = acc'.size := by simp
    refine vals_of_at (by rw [List.length_map, el, hacc.1, hl]) fun j x w h1 h2 => ?_
    obtain ⟨k, y, hky, hi⟩ := hacc.2 j w (by rw [← Array.getElem?_toList]; exact h2)
    have e1 : (kvs.map (·.1))[j]? = some k := by
      rw [KV.keys rk, List.getElem?_map, hky] <;> rfl
    have e2 : (kvs.map fun kv => kV kv.1)[j]? = some (kV k) := by
      have e3 : (kvs.map fun kv => kV kv.1) = (kvs.map (·.1)).map kV := by rw [List.map_map] <;> rfl
      rw [e3, List.getElem?_map, e1] <;> rfl
    rw [e2] at h1
    cases h1
    exact keyIs_rel hi
  · rw [Array.toArray_toList]; exact hS
theorem keysD_rel {G : Gd} {P H : Hp} : ∀ (ks : List Key), RelL G P H (ks.map kV) (ks.map keyD) []
  | [] => .nil
  | k :: ks => .cons (A := []) (B := []) (keyD_rel k) (keysD_rel ks)
def fListX : D → Option D
  | .dct _ ks ds => if ks.length = ds.length then some (.lst true (ks.map keyD)) else none
  | d => fList d
theorem fListX_else {d : D} (h : ∀ o ks ds, d ≠ .dct o ks ds) : fListX d = fList d := by
  cases d <;> first | rfl | exact absurd rfl (h _ _ _)
theorem c_listX (hc : X.calm = true) : CallR X (.type "list") (rC (gd X) (on1 fListX)) := CallR.imp (CallR.or c_list (call_listRd hc)) fun xs H Q h => by
  obtain ⟨v, P, d, B, z, rfl, un, r, o, hf, q⟩ := rC1 h
  cases d with
  | dct ob ks ds =>
    simp only [fListX] at hf
    split at hf
    · rename_i c
      cases hf
      obtain ⟨p, vs, B0, rfl, hdk, hl, rl, hB⟩ := dget_of un r
      refine .inr ⟨p, _, rfl, hdk, fun p' hp => ?_⟩
      have e : (ks.zip vs).map (fun kv => kV kv.1) = ks.map kV := by
        rw [show (fun kv : Key × V => kV kv.1) = kV ∘ Prod.fst from rfl, ← List.map_map, List.map_fst_zip (by omega)]
      rw [e]
      exact post_lst un q (keysD_rel ks) hp
    · cases hf
  | _ =>
    left
    rw [fListX_else (by intro _ _ _ z; cases z)] at hf
    have hf' := hf
    exact ⟨P, _, B ++ [], un, .cons r .nil, by simpa using o, by simp only [on1, hf']; exact q⟩
theorem call_lenRd : CallR X (.builtin "len") (fun xs H Q => ∃ a kvs, xs = [V.ref a] ∧ Rd H a (.dK kvs) ∧ Q (.int kvs.length) H) := by
  intro pins s σ H xs us Q I r h
  obtain ⟨a, kvs, rfl, ha, q⟩ := h
  obtain ⟨u, rfl, ru⟩ := vals1 r
  cases ru
  exact d_len I ha fun t s' I' => ⟨.int kvs.length, H, I', ⟨t, rfl⟩, q⟩
def fLenX : D → Option D
  | .dct _ ks ds => if ks.length = ds.length then some (.int ks.length) else none
  | d => fLen d
theorem fLenX_else {d : D} (h : ∀ o ks ds, d ≠ .dct o ks ds) : fLenX d = fLen d := by
  cases d <;> first | rfl | exact absurd rfl (h _ _ _)
theorem c_lenX : CallR X (.builtin "len") (rC (gd X) (on1 fLenX)) := CallR.imp (CallR.or c_len call_lenRd) fun xs H Q h => by
  obtain ⟨v, P, d, B, z, rfl, un, r, o, hf, q⟩ := rC1 h
  cases d with
  | dct ob ks ds =>
    simp only [fLenX] at hf
    split at hf
    · rename_i c
      cases hf
      obtain ⟨p, vs, B0, rfl, hdk, hl, rl, hB⟩ := dget_of un r
      refine .inr ⟨p, _, rfl, hdk, ?_⟩
      rw [List.length_zip, hl, Nat.min_self, ← hl]
      exact post_val un q (.int _)
    · cases hf
  | _ =>
    left
    rw [fLenX_else (by intro _ _ _ z; cases z)] at hf
    have hf' := hf
    exact ⟨P, _, B ++ [], un, .cons r .nil, by simpa using o, by simp only [on1, hf']; exact q⟩
end
end RL
namespace RL
open PySem PySem.Spec PyProof.Rows L2
section
variable {X : Cx} {W : WX} {L : List Nat} {e a b o f : Expr} {pos apos cpos : Pos} {Sa Sb S So : Env → Res D} {Pl : Env → Res Plc} {k : Nat}
def rA (G : Gd) (f : D → Option D) : V → Hp → VK → Prop := fun y H Q => ∃ P dy By, Under P H ∧ Rel G P H y dy By ∧ (∀ b ∈ By, P b = none) ∧ match f dy with
  | some d => Post G P H Q d
  | none => False
def sM1 (f : Str → D → Option D) (So Sa : Env → Res D) : Env → Res D := fun ρ => (So ρ).bind fun x => match x with
  | .str a => (Sa ρ).bind fun y => opt (f a y)
  | _ => .bad
theorem m1_of {f : Str → D → Option D} {r : V → List V → Hp → VK → Prop} (hr : ∀ a y H Q, rA (gd X) (f a) y H Q → r (.str a) [y] H Q) {σ : Sl} {H : Hp} {Q : VK} (h : tE (gd X) W (sM1 f So Sa) σ H Q) : tM1 r (tBo (gd X) W So) (tBo (gd X) W Sa) σ H Q := by
  obtain ⟨P, ρ, A, st, h⟩ := h
  refine ⟨P, ρ, A, st, ?_⟩
  unfold sM1 at h
  cases ha : So ρ with
  | bad => simp only [ha, Res.bind] at h
  | exc x => simp only [ha, Res.bind] at h; exact h
  | ok dx =>
    simp only [ha, Res.bind] at h
    intro v P1 H1 B1 e1 r1 o1
    cases dx with
    | str x =>
      cases r1
      refine ⟨⟨x, rfl⟩, P1, ρ, A, st.ext e1, ?_⟩
      simp only at h
      cases hb : Sa ρ with
      | bad => simp only [hb] at h
      | exc x => simp only [hb] at h; exact PostX.ext h st.und e1
      | ok dy =>
        simp only [hb] at h
        intro v2 P2 H2 B2 e2 r2 o2
        refine hr _ _ _ _ ⟨P2, dy, B2, e2.und, r2, o2, ?_⟩
        cases hf : f x dy with
        | none => simp only [hf, opt] at h
        | some d => simp only [hf, opt] at h; exact Post.ext h st.und (e1.trans st.und e2)
    | _ => simp only at h
def strsD : List D → Option (List Str)
  | [] => some []
  | .str x :: r => (strsD r).map (x :: ·)
  | _ :: _ => none
theorem strs_rel {G : Gd} {P H : Hp} : ∀ {xs : List V} {ds : List D} {A : List Addr} {ys : List Str}, RelL G P H xs ds A → strsD ds = some ys → xs = ys.map V.str
  | _, _, _, ys, .nil, h => by simp only [strsD, Option.some.injEq] at h; subst h; rfl
  | _, _, _, ys, .cons (d := d) (ds := ds) r t, h => by
    cases r with
    | str x =>
      simp only [strsD] at h
      cases hb : strsD ds with
      | none => rw [hb] at h; cases h
      | some cs => rw [hb] at h; cases h; rw [List.map_cons, strs_rel t hb]
    | _ => simp [strsD] at h
theorem strs_relD {G : Gd} {P H : Hp} : ∀ ys : List Str, RelL G P H (ys.map V.str) (ys.map D.str) []
  | [] => .nil
  | y :: ys => .cons (A := []) (B := []) (.str y) (strs_relD ys)
def joinOk (a : Str) (ys : List Str) : Bool := decide ((ys.map (·.length)).sum + ys.length * a.length ≤ 16777216)
def fJoin (a : Str) : D → Option D
  | .lst _ ds => (strsD ds).bind fun ys => if joinOk a ys = true then some (.str (Txt.join a ys)) else none
  | .tup ds => (strsD ds).bind fun ys => if joinOk a ys = true then some (.str (Txt.join a ys)) else none
  | _ => none
theorem e_join (ho : BOk X W o So) (he : BOk X W e Sa) (hs : starEach [e] X.env = [(false, eval e X.env)] := by rfl) (hbase : attributeBase o "join" X.env (eval o X.env) = eval o X.env := by rfl) (hline : (apos.endLine == pos.line) = true := by rfl) :
    EOk X W (.Call (.Attribute o "join" apos) [e] [] pos) (sM1 fJoin So Sa) := ⟨PE.imp (pe_join ho.pe he.pe hs hbase hline) fun σ H Q h => m1_of (fun a y H Q ⟨P, dy, By, un, r, o, h⟩ => by
  have fin : ∀ {p : Addr} {xs : List V} {ds : List D} {B : List Addr}, y = .ref p → (SqL X.K H p xs ∨ SqT X.K H p xs) → RelL (gd X) P H xs ds B → (match (strsD ds).bind fun ys => if joinOk a ys = true then some (D.str (Txt.join a ys)) else none with | some d => Post (gd X) P H Q d | none => False) →
      ∃ a' p, ∃ ys : List Str, V.str a = .str a' ∧ [y] = [.ref p] ∧ (SqL X.K H p (ys.map V.str) ∨ SqT X.K H p (ys.map V.str)) ∧ (ys.map (·.length)).sum + ys.length * a'.length ≤ 16777216 ∧ Q (.str (Txt.join a' ys)) H := by
    intro p xs ds B ey hs rl h
    cases hd : strsD ds with
    | none => rw [hd] at h; exact h.elim
    | some ys =>
      rw [hd] at h
      simp only [Option.bind_some] at h
      by_cases c : joinOk a ys = true
      · rw [if_pos c] at h
        have e := strs_rel rl hd
        subst e
        exact ⟨a, p, ys, rfl, by rw [ey], hs, by simpa [joinOk] using c, post_val un h (.str _)⟩
      · rw [if_neg c] at h; exact h.elim
  cases r with
  | lstF hP rl => exact fin rfl (.inl (SqL.of (un.lst hP))) rl h
  | lstO hH rl => exact fin rfl (.inl (SqL.of hH)) rl h
  | tup hT rl => exact fin rfl (.inr (un.seqT hT)) rl h
  | _ => exact h.elim) h⟩
def fSplit (a : Str) : D → Option D
  | .str b => if b.length ≠ 0 ∧ a.length + 2 ≤ sizeLine then some (.lst true ((Txt.split a b).map .str)) else none
  | _ => none
theorem e_split (ho : BOk X W o So) (he : BOk X W e Sa) (hs : starEach [e] X.env = [(false, eval e X.env)] := by rfl) (hbase : attributeBase o "split" X.env (eval o X.env) = eval o X.env := by rfl) (hline : (apos.endLine == pos.line) = true := by rfl) :
    EOk X W (.Call (.Attribute o "split" apos) [e] [] pos) (sM1 fSplit So Sa) := ⟨PE.imp (pe_split ho.pe he.pe hs hbase hline) fun σ H Q h => m1_of (fun a y H Q ⟨P, dy, By, un, r, o, h⟩ => by
  cases r with
  | str b =>
    simp only [fSplit] at h
    by_cases c : b.length ≠ 0 ∧ a.length + 2 ≤ sizeLine
    · rw [if_pos c] at h
      exact ⟨a, b, rfl, rfl, beq_eq_false_iff_ne.mpr c.1, c.2, fun p hp => post_lst un h (strs_relD _) hp⟩
    · rw [if_neg c] at h; exact h.elim
  | _ => exact h.elim) h⟩
def fZfill (a : Str) : D → Option D
  | .int i => if PadOk i = true then some (.str (Txt.zfill a i)) else none
  | _ => none
theorem e_zfill (ho : BOk X W o So) (he : BOk X W e Sa) (hs : starEach [e] X.env = [(false, eval e X.env)] := by rfl) (hbase : attributeBase o "zfill" X.env (eval o X.env) = eval o X.env := by rfl) (hline : (apos.endLine == pos.line) = true := by rfl) :
    EOk X W (.Call (.Attribute o "zfill" apos) [e] [] pos) (sM1 fZfill So Sa) := ⟨PE.imp (pe_m1 PySem.F.slot_str_zfill PySem.F.type_str_zfill mt_zfill ho.pe he.pe hs hbase hline) fun σ H Q h => m1_of (fun a y H Q ⟨P, dy, By, un, r, o, h⟩ => by
  cases r with
  | int b =>
    simp only [fZfill] at h
    by_cases c : PadOk b = true
    · rw [if_pos c] at h
      exact ⟨a, b, rfl, rfl, c, post_val un h (.str _)⟩
    · rw [if_neg c] at h; exact h.elim
  | _ => exact h.elim) h⟩
theorem it_str {G : Gd} {x : Str} : ItOk G false (Its x) (x.cps.toList.map fun c => .str ⟨#[c]⟩) fun _ _ => True where
  stay := fun _ _ _ _ _ _ _ _ _ => trivial
  go := fun i P H u _ hi => by
    rw [List.length_map] at hi
    have hs : i < x.cps.size := by simpa using hi
    refine ⟨hs, fun v H' hy => ?_⟩
    obtain ⟨e, c, hc, ev⟩ := hy
    subst e ev
    refine ⟨P, _, Ext.refl u, ?_, .str _⟩
    rw [List.getElem?_map]
    have : x.cps.toList[i]? = some c := by simpa using hc
    rw [this]
    rfl
  stop := fun i P H u _ hi => by
    rw [List.length_map] at hi
    show x.cps.size ≤ i
    simpa using hi
def strD : D → Option (List D)
  | .str x => some (x.cps.toList.map fun c => .str ⟨#[c]⟩)
  | _ => none
def sStr (S : Env → Res D) : Env → Res (List D) := fun ρ => (S ρ).bind fun d => opt (strD d)
theorem i_str {bor : Bool} {tg : Expr} (h : EOk X W e S) : IOk X W bor tg e (sStr S) := ⟨PI.imp (pi_str h.pe) fun σ H R ⟨P, ρ, A, st, q⟩ => ⟨P, ρ, A, st, by
  unfold sStr at q
  cases hs : S ρ with
  | bad => simp only [hs, Res.bind] at q
  | exc x => simp only [hs, Res.bind] at q; exact q
  | ok d =>
    simp only [hs, Res.bind] at q
    intro v P1 H1 B e1 r f
    cases r with
    | str x => exact ⟨x, rfl, q _ P1 H1 _ it_str.any trivial e1⟩
    | _ => exact (show False from q).elim⟩⟩
def iterD : D → Option (List D)
  | .str x => strD (.str x)
  | .dct o ks ds => keysD (.dct o ks ds)
  | d => seqD d
def sIter (S : Env → Res D) : Env → Res (List D) := fun ρ => (S ρ).bind fun d => opt (iterD d)
theorem i_ways {bor : Bool} {tg : Expr} {T : Env → Res (List D)} (h1 : IOk X W bor tg e T) (hT : ∀ ρ, T ρ = sSeq S ρ) (h : EOk X W e S) : IOk X W bor tg e (sIter S) := ⟨PI.imp (PI.or h1.pi (PI.or (i_str h).pi (i_keys h).pi)) fun σ H R ⟨P, ρ, A, st, q⟩ => by
  unfold sIter at q
  have go : ∀ {T' : Env → Res (List D)}, T' ρ = (S ρ).bind (fun d => opt (iterD d)) → tI (gd X) W bor T' σ H R := fun {T'} e => ⟨P, ρ, A, st, by rw [e]; exact q⟩
  cases hs : S ρ with
  | bad => simp only [hs, Res.bind] at q
  | exc x => exact .inl (go (by rw [hT]; simp only [sSeq, hs, Res.bind]))
  | ok d =>
    cases d with
    | str x => exact .inr (.inl (go (by simp only [sStr, hs, Res.bind, iterD])))
    | dct ob ks ds => exact .inr (.inr (go (by simp only [sKeys, hs, Res.bind, iterD])))
    | _ => exact .inl (go (by rw [hT]; simp only [sSeq, hs, Res.bind, iterD]))⟩
theorem i_any {bor : Bool} {tg : Expr} (h : EOk X W e S) : IOk X W bor tg e (sIter S) := i_ways (i_seq h) (fun _ => rfl) h
theorem RelL.getS {G : Gd} {P H : Hp} : ∀ {vs : List V} {ds : List D} {A : List Addr} {i : Nat} {d : D}, RelL G P H vs ds A → ds[i]? = some d → ∃ v B, vs[i]? = some v ∧ Rel G P H v d B ∧ B.Sublist A
  | _, _, _, _, _, .nil, e => by simp at e
  | _, _, _, 0, _, .cons r t, e => by simp at e; subst e; exact ⟨_, _, rfl, r, List.sublist_append_left _ _⟩
  | _, _, _, i + 1, _, .cons r t, e => by
    obtain ⟨v, B, h1, h2, h3⟩ := RelL.getS (i := i) t (by simpa using e)
    exact ⟨v, B, by simpa using h1, h2, h3.trans (List.sublist_append_right _ _)⟩
theorem atI_relS {G : Gd} {P H : Hp} {vs : List V} {ds : List D} {A : List Addr} {i : Int} {d : D} (r : RelL G P H vs ds A) (e : atI ds i = some d) : ∃ v B, atI vs i = some v ∧ Rel G P H v d B ∧ B.Sublist A := by
  unfold atI at e ⊢
  rw [r.length]
  cases h : ixN ds.length i with
  | none => rw [h] at e; cases e
  | some j =>
    rw [h] at e
    exact r.getS e
theorem lookD_relS {G : Gd} {P H : Hp} : ∀ {ks : List Key} {vs : List V} {ds : List D} {A : List Addr} {k : Key} {d : D}, RelL G P H vs ds A → ks.length = vs.length → lookD ks ds k = some d → ∃ v B, valV (ks.zip vs) k = some v ∧ Rel G P H v d B ∧ B.Sublist A
  | [], _, _, _, _, _, _, _, e => by simp [lookD] at e
  | _ :: _, [], _, _, _, _, _, h, _ => by simp at h
  | k :: ks, v :: vs, _, _, j, d, .cons (d := d0) (ds := ds) r t, h, e => by
    by_cases hk : k = j
    · have e' : d0 = d := by simpa [lookD, hk] using e
      subst e'
      exact ⟨v, _, by simp [valV, hk], r, List.sublist_append_left _ _⟩
    · have e' : lookD ks ds j = some d := by simpa [lookD, hk] using e
      obtain ⟨w, B, h1, h2, h3⟩ := lookD_relS t (by simpa using h) e'
      refine ⟨w, B, ?_, h2, h3.trans (List.sublist_append_right _ _)⟩
      unfold valV at h1 ⊢
      rw [List.zip_cons_cons, List.find?_cons_of_neg (by simpa using hk)]
      exact h1
theorem e_ixF (hu : X.A.units + 1 < cLine) (ha : EOk X W a Sa) (hb : BOk X W b Sb) (hs : PlainIx b := by exact fun _ _ => rfl) : EOk X W (.Subscript a b pos) (sIx Sa Sb) :=
  ⟨PE.imp (PE.or (pe_ix ix_seq ha.pe hb.pe hs) (pe_dget hu ha.pe hb.pe hs)) fun σ H Q ⟨P, ρ, A, st, h⟩ => by
    unfold sIx s2 at h
    cases hd : Sa ρ with
    | bad => simp only [hd, Res.bind] at h
    | exc x => exact .inl ⟨P, ρ, A, st, by rw [hd]; simp only [hd, Res.bind] at h; exact h⟩
    | ok dx =>
      simp only [hd, Res.bind] at h
      have com : ∀ {v : V} {P1 H1 : Hp} {B1 : List Addr}, Ext P H P1 H1 [] → Rel (gd X) P1 H1 v dx B1 → Fresh P1 H B1 → ∀ {r : V → V → Hp → VK → Prop}, (∀ {P2 H2 : Hp} {v2 : V} {dy d : D} {B2 : List Addr}, Under P2 H2 → Rel (gd X) P2 H2 v dx B1 → Rel (gd X) P2 H2 v2 dy B2 → opIx dx dy = some d → (∀ w C, Rel (gd X) P2 H2 w d C → C.Sublist B1 → Q w H2) → r v v2 H2 Q) →
          tBo (gd X) W Sb σ H1 fun v2 H2 => r v v2 H2 Q := by
        intro v P1 H1 B1 e1 r1 f1 r hr
        refine ⟨P1, ρ, A, st.ext e1, ?_⟩
        cases hb : Sb ρ with
        | bad => simp only [hb] at h
        | exc x => simp only [hb] at h; exact PostX.ext h st.und e1
        | ok dy =>
          simp only [hb] at h
          intro v2 P2 H2 B2 e2 r2 o2
          have o1 : ∀ b ∈ B1, P1 b = none := fun b hb => (f1.2 b hb).2
          cases hf : opIx dx dy with
          | none => rw [hf] at h; exact h.elim
          | some d =>
            rw [hf] at h
            exact hr e2.und (r1.ext e2 o1) r2 hf fun w C rw sC => h w P2 H2 C (e1.trans st.und e2) rw ⟨f1.1.sublist sC, fun b hb => ⟨(f1.2 b (sC.subset hb)).1, (e2.own r1.at o1).2 b (sC.subset hb)⟩⟩
      by_cases hdc : ∃ o ks ds, dx = .dct o ks ds
      · obtain ⟨o, ks, ds, rfl⟩ := hdc
        refine .inr ⟨P, ρ, A, st, ?_⟩
        rw [hd]
        intro v P1 H1 B1 e1 r1 f1
        refine com e1 r1 f1 (r := fun x y H Q => ∃ a w, x = .ref a ∧ DGet H a y (some w) ∧ Q w H) ?_
        intro P2 H2 v2 dy d B2 un r1' r2 hf hq
        simp only [opIx] at hf
        cases hk : keyOf dy with
        | none => rw [hk] at hf; cases hf
        | some k =>
          rw [hk] at hf
          simp only [Option.bind_some] at hf
          have ev2 : v2 = kV k := key_rel r2 hk
          subst ev2
          cases r1' with
          | dctF q l r =>
            obtain ⟨w, C, hw, rw', hC⟩ := lookD_relS r l hf
            refine ⟨_, w, rfl, .inl ⟨_, k, ?_, rfl, hw.symm⟩, hq w C rw' hC⟩
            rcases un _ _ q with z | ⟨ob, _, _, z⟩ | ⟨_, _, z, _⟩
            · exact .inl z
            · exact .inr ⟨ob, z⟩
            · cases z
          | dctO q l r =>
            obtain ⟨w, C, hw, rw', hC⟩ := lookD_relS r l hf
            exact ⟨_, w, rfl, .inl ⟨_, k, .inl q, rfl, hw.symm⟩, hq w C rw' (hC.trans (List.sublist_cons_self _ _))⟩
      · refine .inl ⟨P, ρ, A, st, ?_⟩
        rw [hd]
        intro v P1 H1 B1 e1 r1 f1
        refine com e1 r1 f1 (r := rIx X.K) ?_
        intro P2 H2 v2 dy d B2 un r1' r2 ho hq
        cases r1' with
        | tup q r =>
          cases r2 <;> simp [opIx] at ho
          obtain ⟨v, B, h1, h2, h3⟩ := atI_relS r ho
          exact .inr (.inl ⟨_, _, _, v, rfl, rfl, un.seqT q, h1, hq v B h2 h3⟩)
        | lstF q r =>
          cases r2 <;> simp [opIx] at ho
          obtain ⟨v, B, h1, h2, h3⟩ := atI_relS r ho
          exact .inl ⟨_, _, _, v, rfl, rfl, un.seqL (SqL.of q), h1, hq v B h2 h3⟩
        | lstO q r =>
          cases r2 <;> simp [opIx] at ho
          obtain ⟨v, B, h1, h2, h3⟩ := atI_relS r ho
          exact .inl ⟨_, _, _, v, rfl, rfl, SqL.of q, h1, hq v B h2 (h3.trans (List.sublist_cons_self _ _))⟩
        | scr q =>
          cases r2 <;> simp [opIx] at ho
          obtain ⟨n, hn, rfl⟩ := ho
          refine .inl ⟨_, _, _, .int n, rfl, rfl, un.seqL q, ?_, hq _ [] (.int n) (List.nil_sublist _)⟩
          unfold atI at hn ⊢
          rw [List.length_map]
          cases hi : ixN _ _ with
          | none => rw [hi] at hn; cases hn
          | some j =>
            rw [hi] at hn
            simp only [Option.bind] at hn ⊢
            rw [List.getElem?_map, hn]; rfl
        | str z =>
          cases r2 <;> simp [opIx] at ho
          obtain ⟨c, n, hn, rfl⟩ := ho
          exact .inr (.inr ⟨_, _, n, rfl, rfl, c, hn, hq _ [] (.str _) (List.nil_sublist _)⟩)
        | dctF _ _ _ => exact absurd ⟨_, _, _, rfl⟩ hdc
        | dctO _ _ _ => exact absurd ⟨_, _, _, rfl⟩ hdc
        | _ => cases r2 <;> simp [opIx] at ho⟩
def intsD : List D → Option (List Int)
  | [] => some []
  | .int x :: r => (intsD r).map (x :: ·)
  | _ :: _ => none
theorem ints_of_rel {G : Gd} {P H : Hp} : ∀ {xs : List V} {ds : List D} {A : List Addr} {ys : List Int}, RelL G P H xs ds A → intsD ds = some ys → xs = ys.map V.int
  | _, _, _, ys, .nil, h => by simp only [intsD, Option.some.injEq] at h; subst h; rfl
  | _, _, _, ys, .cons (d := d) (ds := ds) r t, h => by
    cases r with
    | int x =>
      simp only [intsD] at h
      cases hb : intsD ds with
      | none => rw [hb] at h; cases h
      | some cs => rw [hb] at h; cases h; rw [List.map_cons, ints_of_rel t hb]
    | _ => simp [intsD] at h
end
end RL
namespace RL
open PySem PySem.Spec PyProof.Rows L2
theorem GRoom.blk {X : Cx} {k : Nat} (h : GRoom k X.A) {s : Shared} {H : Hp} {sc : Scope} {c : PySem.Env} {fp : List Addr} : GRoom k (X.blk s H sc c fp).A := h
theorem GRoom.tr {X : Cx} {k : Nat} (h : GRoom k X.A) {pn : List (Addr × Obj)} {xe : Value → Shared → Prop} : GRoom k (X.tr pn xe).A := h
abbrev FaB : Type := PySem.W.Frag → Bool
def clsB (i : Stmt) : List Stmt := match i with
  | .ClassDef _ _ _ b _ _ _ _ _ _ _ => b
  | _ => []
def obsR (fa : List FaB) (fn : List He.DefD) (K : PySem.W.Frag) : He.AlD := ((fa.all fun f => f K) && fn.all fun d => d.ok K, fn.map fun d => He.fnW K d.at_)
def SaysR (fa : List FaB) (fn : List He.DefD) (K : PySem.W.Frag) : Prop := obsR fa fn K = He.valD fn
def nodupB : List Addr → Bool
  | [] => true
  | a :: l => !l.contains a && nodupB l
def emptyB : Option Obj → Bool
  | some ⟨.none, none, .fields vs, sl⟩ => vs.size == 0 && sl.size == 0
  | _ => false
def tabB (g : Addr → Option Obj) (K : PySem.W.Frag) : Bool := ((tabsOf K).all fun p => emptyB (g p.1)) && nodupB ((tabsOf K).map (·.1))
theorem frG_mem {g : Addr → Option Obj} {as : List Addr} {c : Addr} {o : Obj} (h : (c, o) ∈ He.frG g as) : c ∈ as ∧ g c = some o := by
  unfold He.frG at h
  obtain ⟨a, ha, e⟩ := List.mem_filterMap.mp h
  cases q : g a with
  | none => rw [q] at e; cases e
  | some o' =>
    rw [q] at e
    cases e
    exact ⟨ha, q⟩
theorem emptyB_of {o : Option Obj} (h : emptyB o = true) : o = some { cls := .none, data := .fields #[] } := by
  unfold emptyB at h
  split at h
  · rename_i vs sl
    simp only [Bool.and_eq_true, beq_iff_eq] at h
    have e1 : vs = #[] := Array.eq_empty_of_size_eq_zero h.1
    have e2 : sl = #[] := Array.eq_empty_of_size_eq_zero h.2
    rw [e1, e2]
  · cases h
theorem nodupB_of : ∀ {l : List (Addr × Str)}, nodupB (l.map (·.1)) = true → ∀ p ∈ l, ∀ p' ∈ l, p.1 = p'.1 → p = p'
  | [], _, p, hp, _, _, _ => by simp at hp
  | a :: l, h, p, hp, p', hp', e => by
    simp only [List.map_cons, nodupB, Bool.and_eq_true, Bool.not_eq_true', List.contains_eq_mem, decide_eq_false_iff_not] at h
    rcases List.mem_cons.mp hp with h1 | h1
    · rcases List.mem_cons.mp hp' with h2 | h2
      · rw [h1, h2]
      · exact absurd (show a.1 ∈ l.map (·.1) from List.mem_map.mpr ⟨p', h2, by rw [← e, h1]⟩) h.1
    · rcases List.mem_cons.mp hp' with h2 | h2
      · exact absurd (show a.1 ∈ l.map (·.1) from List.mem_map.mpr ⟨p, h1, by rw [e, h2]⟩) h.1
      · exact nodupB_of h.2 p h1 p' h2 e
section
variable {fa : List FaB} {fn : List He.DefD} {K : PySem.W.Frag}
theorem SaysR.fact (c : SaysR fa fn K) (i : Nat) {f : FaB} (h : fa[i]? = some f := by rfl) : f K = true := by
  have c1 := (He.ba (show ((fa.all fun f => f K) && fn.all fun d => d.ok K) = true from congrArg (fun z : He.AlD => z.1) c)).1
  exact List.all_eq_true.mp c1 f (List.mem_of_getElem? h)
theorem SaysR.def_ (c : SaysR fa fn K) (i : Nat) {d : He.DefD} (h : fn[i]? = some d := by rfl) : ∃ fd, FunD K d.name d.qual d.params d.body d.scope (d.dvs K) (d.kws K) (He.fAd K d.at_) fd := by
  have c2 := (He.ba (show ((fa.all fun f => f K) && fn.all fun d => d.ok K) = true from congrArg (fun z : He.AlD => z.1) c)).2
  have e : fn.map (fun d => He.fnW K d.at_) = fn.map He.DefD.val := congrArg (fun z : He.AlD => z.2) c
  have e2 : (fn.map fun d => He.fnW K d.at_)[i]? = (fn.map He.DefD.val)[i]? := by rw [e]
  rw [List.getElem?_map, List.getElem?_map, h] at e2
  exact He.DefD.funD (Option.some.inj e2) (List.all_eq_true.mp c2 d (List.mem_of_getElem? h))
end
def fB (f : He.Fa) : FaB := fun K => f.ok K
def fSys : FaB := fun K => match K.lookup sysModules with
  | some ⟨_, _, .seq _ _, _⟩ => false
  | some _ => true
  | none => false
def fFld (cs : List Str) (f : Str) : FaB := fun K => cs.all fun c => (He.Fa.glo c).ok K && ((He.Fa.cls c).ok K && (He.Fa.noat c f).ok K)
def fMth (c m : Str) : FaB := fun K => (He.Fa.glo c).ok K && ((He.Fa.cls c).ok K && (He.Fa.meth c m).ok K)
def fMk (c : Str) : FaB := fun K => (He.Fa.glo c).ok K && (He.Fa.mkr c).ok K
def fXc (c : Str) : FaB := fun K => (He.Fa.glo c).ok K && (He.Fa.exc c).ok K
def fSub (h : Str) (subs : List (Str × Bool)) : FaB := fun K => (He.Fa.glo h).ok K && subs.all fun p => (He.Fa.glo p.1).ok K && (He.Fa.exm p.1 h p.2).ok K
def excB (K : PySem.W.Frag) (D : Addr) : Bool := He.eqO (PySem.W.findIn K (.ref D) "__getattribute__") (some (some (.builtin "BaseException.__getattribute__"))) && (He.eqO (PySem.W.findIn K (.ref D) "__getattr__") (some none) &&
  (decide (PySem.W.subIn K (.ref D) (.type "BaseException") = some true) && (PySem.W.hasDictIn K D && (He.eqO (PySem.W.findIn K (.ref D) "__class__") (some (some (.builtin "object.__class__"))) &&
  (He.eqO (PySem.W.specialIn K (.builtin "object.__class__") "__get__") (some (some (.builtin "getset_descriptor.__get__"))) && (decide (PySem.W.takesIn K (.builtin "object.__class__") = some true) && decide (PySem.W.mroIn K D (.type "object") = some true)))))))
def uGlo (x : Str) : PySem.W.Frag → Value := fun K => .ref (He.ga K x)
def uTy (t : String) : PySem.W.Frag → Value := fun _ => .type t
def fIsE (u : PySem.W.Frag → Value) (tab : List (Str × Bool)) : FaB := fun K => tab.all fun p => (He.Fa.glo p.1).ok K && (excB K (He.ga K p.1) && decide (PySem.W.kitOne K (.ref (He.ga K p.1)) (u K) = some p.2))
section
variable {K : PySem.W.Frag} {h : Heap} {mg : Str → Option Value} {P : Program} {w : World} {base : Heap}
theorem sys_ok (c : fSys K = true) : SysK K := by
  unfold fSys at c
  cases e : K.lookup sysModules with
  | none => rw [e] at c; cases c
  | some o =>
    rw [e] at c
    refine ⟨o, e, fun its n hd => ?_⟩
    obtain ⟨a1, a2, a3, a4⟩ := o
    simp only at hd
    subst hd
    simp at c
theorem fld_ok (X : K.In h) (G : h.Ns mainGlobals mg) {cs : List Str} {f : Str} (c : fFld cs f K = true) : FldOk K mg f cs := ⟨fun x hx => by
  obtain ⟨c1, c2⟩ := He.ba (List.all_eq_true.mp c x hx)
  obtain ⟨c2, c3⟩ := He.ba c2
  exact ⟨_, He.glo_ok X G c1, He.cls_ok c2, He.noat_ok c3⟩⟩
theorem mth_ok (X : K.In h) (G : h.Ns mainGlobals mg) {c m x qual : Str} {st : Stmt} {k : Nat} {ps : List Str} {L : List Nat} {φ : List D → FR} {fd : FuncData} (c1 : fMth c m K = true) (F : Fun K x qual st (He.fAd K (c, some m)) fd) (hG : FnG P w K mg base k (He.fAd K (c, some m)) fd ps (spF ⟨K, mg⟩ ps.length L φ))
    (b : ∀ (kV doc pm : Value) (an : Option Addr) (cdv ct : Value) (us : List Value), us.length = ps.length → bindArgs (PySem.W.fnOf x qual (defArgs st) (defBody st) (defScope st) .none kV doc pm an cdv ct) ⟨us, []⟩ = pure (ps.zip us)) : MthOk P w K mg base c m k ps L φ := by
  obtain ⟨c1, c2⟩ := He.ba c1
  obtain ⟨c2, c3⟩ := He.ba c2
  exact ⟨_, fd, _, hG, F.binds b, He.glo_ok X G c1, He.cls_ok c2, He.meth_ok c3⟩
theorem mk_ok (X : K.In h) (G : h.Ns mainGlobals mg) {c x qual : Str} {st : Stmt} {k : Nat} {ps : List Str} {φ : List D → FR} {fd : FuncData} (c1 : fMk c K = true) (F : Fun K x qual st (He.fAd K (c, some "__init__")) fd) (hG : FnG P w K mg base k (He.fAd K (c, some "__init__")) fd ps (spF ⟨K, mg⟩ ps.length [0] φ))
    (b : ∀ (kV doc pm : Value) (an : Option Addr) (cdv ct : Value) (us : List Value), us.length = ps.length → bindArgs (PySem.W.fnOf x qual (defArgs st) (defBody st) (defScope st) .none kV doc pm an cdv ct) ⟨us, []⟩ = pure (ps.zip us)) : MkOk P w K mg base c k ps φ := by
  obtain ⟨c1, c2⟩ := He.ba c1
  exact ⟨_, fd, _, hG, F.binds b, He.glo_ok X G c1, He.mkr_ok c2⟩
theorem xc_ok (X : K.In h) (G : h.Ns mainGlobals mg) {c : Str} (c1 : fXc c K = true) : XcOk K mg c := by
  obtain ⟨c1, c2⟩ := He.ba c1
  obtain ⟨h1, h2, h3, h4⟩ := He.exc_ok c2
  exact ⟨_, He.glo_ok X G c1, h1, h2, h3, h4⟩
theorem sub_ok (X : K.In h) (G : h.Ns mainGlobals mg) {x : Str} {subs : List (Str × Bool)} (c : fSub x subs K = true) : SubOk K mg x subs := by
  obtain ⟨c1, c2⟩ := He.ba c
  refine ⟨_, He.glo_ok X G c1, fun y b hy => ?_⟩
  obtain ⟨c3, c4⟩ := He.ba (List.all_eq_true.mp c2 _ hy)
  exact ⟨_, He.glo_ok X G c3, He.exm_ok c4⟩
theorem isE_ok (X : K.In h) (G : h.Ns mainGlobals mg) {u : PySem.W.Frag → Value} {tab : List (Str × Bool)} (c : fIsE u tab K = true) : IsExc K mg (u K) tab := by
  refine ⟨fun y b hy => ?_⟩
  obtain ⟨c3, c4⟩ := He.ba (List.all_eq_true.mp c _ hy)
  obtain ⟨e, c9⟩ := He.ba c4
  obtain ⟨e1, e⟩ := He.ba e
  obtain ⟨e2, e⟩ := He.ba e
  obtain ⟨e3, e⟩ := He.ba e
  obtain ⟨e4, e⟩ := He.ba e
  obtain ⟨e5, e⟩ := He.ba e
  obtain ⟨e6, e⟩ := He.ba e
  obtain ⟨e7, e8⟩ := He.ba e
  exact ⟨_, He.glo_ok X G c3, ⟨He.eqO_ok e1, He.eqO_ok e2, of_decide_eq_true e3, e4, He.eqO_ok e5, He.eqO_ok e6, of_decide_eq_true e7, of_decide_eq_true e8⟩, of_decide_eq_true c9⟩
theorem isEG_ok (X : K.In h) (G : h.Ns mainGlobals mg) {x : Str} {tab : List (Str × Bool)} (c0 : (He.Fa.glo x).ok K = true) (c : fIsE (uGlo x) tab K = true) : ∃ D, mg x = some (.ref D) ∧ IsExc K mg (.ref D) tab := ⟨_, He.glo_ok X G c0, isE_ok X G c⟩
end
end RL
namespace RL
open PySem PySem.Spec PyProof.Rows L2
def hasB (m a : Nat) : Bool := Nat.beq (Nat.land (Nat.shiftRight m a) 1) 1
def addR {β : Type} : List Addr → Nat → List Addr → (Nat → List Addr → β) → β
  | [], m, acc, k => k m acc
  | r :: rs, m, acc, k => match hasB m r with
    | true => addR rs m acc k
    | false => HandSHeadRun.frNat (Nat.lor m (Nat.shiftLeft 1 r)) fun m' => addR rs m' (r :: acc) k
def layR {β : Type} (g : Addr → Option Obj) : List Addr → Nat → List Addr → (Nat → List Addr → β) → β
  | [], m, acc, k => k m acc
  | a :: as, m, acc, k => match g a with
    | some o => addR (He.refsD o) m acc fun m' acc' => layR g as m' acc' k
    | none => layR g as m acc k
def reaR (g : Addr → Option Obj) : Nat → List Addr → Nat → List Addr → List Addr
  | 0, f, _, all => all ++ f
  | n + 1, f, m, all => layR g f m [] fun m' f' => reaR g n f' m' (all ++ f)
def maskR {β : Type} : List (Addr × Str) → Nat → (Nat → β) → β
  | [], m, k => k m
  | p :: ps, m, k => HandSHeadRun.frNat (Nat.lor m (Nat.shiftLeft 1 p.1)) fun m' => maskR ps m' k
def asR (n : Nat) (g : Addr → Option Obj) : List Addr := (fun l => maskR (tabsOf (He.frG g l)) 0 fun m => l.filter fun a => !hasB m a) (reaR g n [mainGlobals, sysModules] (Nat.lor (Nat.shiftLeft 1 mainGlobals) (Nat.shiftLeft 1 sysModules)) [])
def disjB (as : List Addr) (K : PySem.W.Frag) : Bool := maskR (tabsOf K) 0 fun m => as.all fun a => !hasB m a
theorem hasB_eq (m a : Nat) : hasB m a = m.testBit a := by
  have e : hasB m a = Nat.beq (m >>> a &&& 1) 1 := rfl
  rw [e, Nat.testBit, Nat.and_comm 1, Nat.and_one_is_mod]
  have := Nat.mod_two_eq_zero_or_one (m >>> a)
  rcases this with h | h <;> rw [h] <;> rfl
theorem maskR_eq {β : Type} : ∀ (ps : List (Addr × Str)) (m : Nat) (k : Nat → β), maskR ps m k = k (ps.foldl (fun m p => m ||| 1 <<< p.1) m)
  | [], _, _ => rfl
  | p :: ps, m, k => by
    have : maskR (p :: ps) m k = HandSHeadRun.frNat (m ||| 1 <<< p.1) fun m' => maskR ps m' k := rfl
    rw [this, HandSHeadRun.frNat_eq, maskR_eq ps]
    rfl
theorem bit_keep (a : Nat) : ∀ (ps : List (Addr × Str)) (m : Nat), m.testBit a = true → (ps.foldl (fun m p => m ||| 1 <<< p.1) m).testBit a = true
  | [], _, h => h
  | p :: ps, m, h => bit_keep a ps _ (by rw [Nat.testBit_or, h, Bool.true_or])
theorem bit_in (q : Addr × Str) : ∀ (ps : List (Addr × Str)) (m : Nat), q ∈ ps → (ps.foldl (fun m p => m ||| 1 <<< p.1) m).testBit q.1 = true
  | p :: ps, m, h => by
    rcases List.mem_cons.mp h with rfl | h
    · exact bit_keep _ ps _ (by rw [Nat.testBit_or, Nat.testBit_shiftLeft]; simp)
    · exact bit_in q ps _ h
theorem disjB_out {as : List Addr} {K : PySem.W.Frag} (d : disjB as K = true) {p : Addr × Str} (hp : p ∈ tabsOf K) : p.1 ∉ as := by
  unfold disjB at d
  rw [maskR_eq] at d
  intro z
  have := List.all_eq_true.mp d _ z
  rw [hasB_eq, bit_in p _ 0 hp] at this
  cases this
def tabL (as : List Addr) (g : Addr → Option Obj) : Bool := tabB g (He.frG g as) && disjB as (He.frG g as)
def obsL (as : List Addr) (fa : List FaB) (fn : List He.DefD) (g : Addr → Option Obj) : He.AlD := (tabL as g && (obsR fa fn (He.frG g as)).1, (obsR fa fn (He.frG g as)).2)
theorem ctab_L {g : Addr → Option Obj} {as : List Addr} {h : Heap} (e : ∀ a, g a = h.get? a) (b : tabL as g = true) : CtabOk (He.frG g as) h := by
  unfold tabL at b
  obtain ⟨b, d⟩ := Bool.and_eq_true_iff.mp b
  unfold tabB at b
  simp only [Bool.and_eq_true, List.all_eq_true] at b
  have src : ∀ p ∈ tabsOf (He.frG g as), p.1 ∉ as ∧ ∃ c o, c ∈ as ∧ g c = some o ∧ tabOf o = some p := by
    intro p hp
    obtain ⟨⟨c, o⟩, h1, h2⟩ := List.mem_filterMap.mp hp
    obtain ⟨h3, h4⟩ := frG_mem h1
    exact ⟨disjB_out d hp, c, o, h3, h4, h2⟩
  refine ⟨fun p hp => ?_, fun p hp => ?_, nodupB_of b.2, fun p hp => ?_⟩
  · rw [← e]
    exact emptyB_of (b.1 p hp)
  · cases q : List.lookup p.1 (He.frG g as) with
    | none => rfl
    | some o => exact absurd (frG_mem (look_mem q)).1 (src p hp).1
  · obtain ⟨n1, c, o, h1, h2, h3⟩ := src p hp
    obtain ⟨T, q⟩ := p
    exact ⟨c, tabOf_code h3 (by rw [← e]; exact h2) fun z => n1 (z ▸ h1)⟩
theorem map3 {α β γ δ : Type} {x : Option α} {f : α → β} {g : α → γ} {h : α → δ} {a : β} {b : γ} {c : δ} (h1 : x.map f = some a) (h2 : x.map g = some b) (h3 : x.map h = some c) : x.map (fun s => (f s, g s, h s)) = some (a, b, c) := by
  cases x with
  | none => cases h1
  | some s =>
    cases h1
    cases h2
    cases h3
    rfl
end RL
namespace RL
open PySem PySem.Spec PyProof.Rows L2
section
variable {P : Program} {w : World} {A : Around} {E : Value → Shared → Prop} {s : Shared}
abbrev oSet (w : World) : Obj := { cls := .type "set", dict := none, data := .set #[] 0 (.fresh 0 0 (!w.params.followText "set-order")) }
def SetIs (w : World) (s : Shared) (ns : List Int) (s2 : Shared) : Prop := ∃ h' tk c, s2 = { s with heap := h', toks := tk } ∧ SetR w h' s.heap.objs.size (fun j => decide (j ∈ ns)) c ∧ c ≤ ns.length ∧ ∀ b o, s.heap.get? b = some o → h'.get? b = some o
theorem fill {B : Around} {l : Addr} {items : Array Value} {ns : List Int} {R : Result → Shared → Prop} (hh : B.in1.in1.handled = none) (hl : s.heap.IsList l items) (hit : IntsAre items.toList ns) (hb : ns.length + 1 < scanBound)
    (done : ∀ s2, SetIs w s ns s2 → R (.ok (.ret .none)) s2) :
    wpAny (model P w) B.in1 (Builtin.«set.__init__» ⟨[.ref s.heap.objs.size, .ref l], []⟩) (fun fin s' => match fin with | .done f => R (.ok f) s' | .again c' => c'.quiet = true ∧ codeAny (model P w) B c' R s') (fun e s' => R (.error e) s') { s with heap := s.heap.push (oSet w) } := by
  have sz : items.size = ns.length := Array.length_toList.symm.trans hit.length
  have new : (s.heap.push (oSet w)).get? s.heap.objs.size = some (oSet w) := Heap.get?_push_size _ rfl
  obtain ⟨⟨oc, od, dt, osl⟩, at0, cls, n, dat⟩ := hl
  simp only at cls dat
  subst cls dat
  have at1 : (s.heap.push (oSet w)).get? l = some { cls := .type "list", dict := od, data := .seq items n, slots := osl } := Heap.get?_push_of_some _ at0
  have no1 := F.sub_list_set
  have no2 := F.sub_list_frozenset
  have no3 : (Value.type "list" == Value.type "dict") = false := by decide
  have isl : (s.heap.push (oSet w)).IsList l items := ⟨_, at1, rfl, n, rfl⟩
  have lt : l < s.heap.objs.size := Heap.lt_size at0
  have sp : (s.heap.push (oSet w)).objs.size = s.heap.objs.size + 1 := Heap.size_push ..
  unfold Builtin.«set.__init__» noKeywords Builtin.Frozenset.updateFrom
  generalize hk : pyIter = it
  wp_walk
  subst hk
  refine wpAny_pyIter_list isl (wpAny_bind (wpAny_runValue ?_))
  refine set_update_ints ((Walks.list (by first | exact hh | simp [hh]) (s.heap.push (oSet w)).objs.size l (by rw [sp]; exact Nat.ne_of_lt (Nat.lt_succ_of_lt lt)) items).toS) s.heap.objs.size ?nin ns sz hb ?vals (items.size - 0) 0 _ (by omega) (Nat.zero_le _) ⟨⟨_, Heap.get?_push_size _ rfl, rfl, rfl⟩, isl.push _⟩ ?start ?fin
  case nin =>
    rw [sp]
    intro z
    rcases List.mem_cons.mp z with z | z
    · exact absurd z (Nat.ne_of_lt (Nat.lt_succ_self _))
    · exact Nat.ne_of_gt lt (List.mem_singleton.mp z)
  case vals =>
    intro i v hv
    have lti : i < ns.length := sz ▸ (Array.getElem?_eq_some_iff.mp hv).1
    obtain ⟨t, e⟩ := hit.int_at i v (by rw [Array.getElem?_toList]; exact hv)
    rw [List.getD_eq_getElem?_getD, List.getElem?_eq_getElem lti] at e
    exact ⟨ns[i], t, List.getElem?_eq_getElem lti, e⟩
  case start => exact ⟨0, Nat.le_refl 0, setR_new_at (Heap.get?_push_of_some _ new)⟩
  case fin =>
    rintro ⟨h2, g2, d2, k2, o2⟩ c mv le sr
    obtain rfl : g2 = s.gens := mv.gens
    obtain rfl : d2 = s.drawn := mv.drawn
    obtain rfl : o2 = s.os := mv.os
    refine wpAny_pure (wpAny_pure ?_)
    refine done _ ⟨h2, k2, c, rfl, sr, sz ▸ le, fun b o e => ?_⟩
    have lb := Heap.lt_size e
    refine mv.heap b o (fun z => ?_) (Heap.get?_push_of_some _ (Heap.get?_push_of_some _ e))
    rw [sp] at z
    rcases List.mem_cons.mp z with z | z
    · exact Nat.ne_of_lt lb z
    · exact Nat.ne_of_lt (Nat.lt_succ_of_lt lb) (List.mem_singleton.mp z)
theorem set_listI {l : Addr} {items : Array Value} {ns : List Int} {Q : Value → Shared → Prop} (hh : A.handled = none) (hl : s.heap.IsList l items) (hit : IntsAre items.toList ns) (hb : ns.length + 1 < scanBound)
    (h : ∀ s2, SetIs w s ns s2 → Q (.ref s.heap.objs.size) s2) : wpAny (model P w) A (call (.type "set") [.ref l]) Q E s := by
  obtain ⟨c0, tl0, order⟩ := F.called_set.mro
  have how := F.called_set.made
  have su := F.called_set.sub
  have k1 := F.called_set.notType
  have k2 := F.called_set.canCreate
  have k3 := F.typeCall_set_1 (.ref l)
  refine wpAny_call (codeAny_of_tree (show wpAny _ _ (callAny (.type "set") _) _ _ _ from ?_))
  refine wpAny_pure ⟨Code.quiet_builtin _ (by decide +kernel), codeAny_builtin F.entry_type_call ?_⟩
  rw [Around.under_plain (weight_type_call_type "set" [.ref l] []) rfl]
  repeat any_goals (first | assumption | wp_step)
  refine codeAny_mono (code_set_led1 (.ref l) (E := E) (Q₁ := fun v s1 => v = .ref s.heap.objs.size ∧ s1 = { s with heap := s.heap.push (oSet w) }) ⟨rfl, rfl⟩) fun r s1 hr => ?_
  rcases r with e | fl
  · exact hr
  cases fl <;> first | exact hr.elim | skip
  obtain ⟨rfl, rfl⟩ := hr
  have ty : Shared.TypeIs { s with heap := s.heap.push (oSet w) } (.ref s.heap.objs.size) "set" := ⟨_, Heap.get?_push_size _ rfl, rfl⟩
  have j1 := F.called_set.init.lookup
  have j2 := F.called_set.init.bind (.ref s.heap.objs.size)
  repeat any_goals (first | assumption | wp_step)
  refine codeAny_mono (codeAny_call_builtin (R := wants (fun r s2 => r = .none ∧ SetIs w s ns s2) E) F.called_set.init.plain F.entry_set_init (check_set_init_1 ty (fill (by simp [hh]) hl hit hb fun s2 q => ⟨rfl, q⟩))) fun r2 s2 hr2 => ?_
  rcases r2 with e | fl
  · exact hr2
  cases fl <;> first | exact hr2.elim | skip
  obtain ⟨rfl, q⟩ := hr2
  have q' := q
  obtain ⟨h', tk, c, rfl, _⟩ := q'
  repeat any_goals (first | assumption | wp_step)
  exact h _ q
end
section
variable {X : Cx} {W : WX} {a : Expr} {S : Env → Res D} {p p2 q pos : Pos}
def tSortSet (K : PySem.W.Frag) (ta : TE) : TE := fun σ H Q => ta σ H fun x H1 => ∃ (l : Addr) (ns : List Int), x = .ref l ∧ SqL K H1 l (ns.map V.int) ∧ ns.length < 64 ∧
  ∀ (ms : List Int) (b : Addr), ms.Pairwise (· < ·) → (∀ k, k ∈ ms ↔ k ∈ ns) → H1 b = none → Q (.ref b) (upd H1 b (.lst (ms.map V.int)))
theorem pe_sortSet {ta : TE} (hc : X.calm = true) (hg : Gl X "sorted") (hm : X.mg "sorted" = none) (hg2 : Gl X "set") (hm2 : X.mg "set" = none) (ha : PE X a ta)
    (na : starEach [a] X.env = (false, eval a X.env) :: starEach [] X.env := by rfl) : PE X (.Call (.Name "sorted" p) [.Call (.Name "set" p2) [a] [] q] [] pos) (tSortSet X.K ta) := by
  refine ⟨fun pins s σ H Q I h => ?_⟩
  refine Call_ (ld_blt I hg hm PyProof.Rows.boot_sorted (callWith_builtin1 (args_cons ?_ rfl) rfl rfl))
  refine Call_ (ld_blt I hg2 hm2 boot_set (callWith_type1 (args_cons (thn (ha.run pins s σ H _ I h) fun v s1 ⟨x, H1, I1, r1, q1⟩ => args_nil ?_) na) na rfl))
  obtain ⟨l, ns, rfl, hq, h64, q1⟩ := q1
  cases r1
  obtain ⟨its, r, pl, hz⟩ := I1.list hq
  refine set_listI (I1.ok.hd hc) pl.isList (ns := ns) (by simpa using r.ints) (by unfold scanBound; omega) fun s2 ⟨h', tk, c, e, sr, cl, kp⟩ => ?_
  subst e
  refine args_nil ?_
  have I2 : Inv X pins σ H1 { s1 with heap := h', toks := tk } := I1.kept kp
  refine sorted_set sr (I2.ok.hd hc) (by omega) fun z b out cnt ms kp2 gz oz new ob hi asc mem len => ?_
  have few : (ms.map V.int).length ≤ sizeLine := by
    rw [List.length_map, len, sizeLine_eq]
    omega
  have fr2 := I2.hok.fresh new
  obtain ⟨zh, zg, zd, zt, zo⟩ := z
  simp only at gz oz
  subst gz oz
  have J : L2.Inv X pins σ (upd H1 b (.lst (ms.map V.int))) ⟨zh, s1.gens, zd, zt, s1.os⟩ := L2.Inv.call (s := { s1 with heap := h', toks := tk }) (ch := []) I2 (Un.laid kp2 new fr2) (I2.hok.laid kp2 new ⟨few, out.toList, cnt, vals_of_ints hi, ob⟩) I2.bare (fun _ z => nomatch z)
  exact ⟨.ref b, _, J, rfl, q1 ms b asc (fun k => (mem k).trans (by simp)) fr2⟩
def insI (n : Int) : List Int → List Int
  | [] => [n]
  | m :: ms => if n < m then n :: m :: ms else if n = m then m :: ms else m :: insI n ms
def sortI : List Int → List Int
  | [] => []
  | n :: ns => insI n (sortI ns)
theorem insI_mem {n k : Int} : ∀ {ms : List Int}, k ∈ insI n ms ↔ k = n ∨ k ∈ ms
  | [] => by simp [insI]
  | m :: ms => by
    unfold insI
    split
    · simp
    · split
      · rename_i e
        subst e
        simp
      · rw [List.mem_cons, insI_mem, List.mem_cons]
        constructor
        · rintro (h | h | h)
          · exact .inr (.inl h)
          · exact .inl h
          · exact .inr (.inr h)
        · rintro (h | h | h)
          · exact .inr (.inl h)
          · exact .inl h
          · exact .inr (.inr h)
theorem insI_up {n : Int} : ∀ {ms : List Int}, ms.Pairwise (· < ·) → (insI n ms).Pairwise (· < ·)
  | [], _ => by simp [insI]
  | m :: ms, h => by
    obtain ⟨h1, h2⟩ := List.pairwise_cons.mp h
    unfold insI
    split
    · rename_i lt
      refine List.pairwise_cons.mpr ⟨fun k hk => ?_, h⟩
      rcases List.mem_cons.mp hk with rfl | hk
      · exact lt
      · exact Int.lt_trans lt (h1 k hk)
    · split
      · exact h
      · rename_i a b
        refine List.pairwise_cons.mpr ⟨fun k hk => ?_, insI_up h2⟩
        rcases insI_mem.mp hk with rfl | hk
        · omega
        · exact h1 k hk
theorem sortI_mem {k : Int} : ∀ {ns : List Int}, k ∈ sortI ns ↔ k ∈ ns
  | [] => by simp [sortI]
  | n :: ns => by rw [sortI, insI_mem, sortI_mem, List.mem_cons]
theorem sortI_up : ∀ ns : List Int, (sortI ns).Pairwise (· < ·)
  | [] => .nil
  | n :: ns => insI_up (sortI_up ns)
theorem up_unique : ∀ {xs ys : List Int}, xs.Pairwise (· < ·) → ys.Pairwise (· < ·) → (∀ k, k ∈ xs ↔ k ∈ ys) → xs = ys
  | [], [], _, _, _ => rfl
  | [], y :: ys, _, _, h => by have := (h y).mpr List.mem_cons_self; simp at this
  | x :: xs, [], _, _, h => by have := (h x).mp List.mem_cons_self; simp at this
  | x :: xs, y :: ys, hx, hy, h => by
    obtain ⟨a1, a2⟩ := List.pairwise_cons.mp hx
    obtain ⟨b1, b2⟩ := List.pairwise_cons.mp hy
    have e : x = y := by
      rcases List.mem_cons.mp ((h x).mp List.mem_cons_self) with e | e
      · exact e
      · rcases List.mem_cons.mp ((h y).mpr List.mem_cons_self) with e2 | e2
        · exact e2.symm
        · have := b1 x e
          have := a1 y e2
          omega
    subst e
    rw [up_unique a2 b2 fun k => ?_]
    constructor
    · intro hk
      rcases List.mem_cons.mp ((h k).mp (List.mem_cons_of_mem _ hk)) with e | e
      · have := a1 k hk
        omega
      · exact e
    · intro hk
      rcases List.mem_cons.mp ((h k).mpr (List.mem_cons_of_mem _ hk)) with e | e
      · have := b1 k hk
        omega
      · exact e
def fSortSet : D → Option D
  | .lst _ ds => (intsD ds).bind fun ns => if ns.length < 64 then some (.lst true ((sortI ns).map .int)) else none
  | _ => none
theorem e_sortSet (hc : X.calm = true) (hm : X.mg "sorted" = none) (hm2 : X.mg "set" = none) (ha : BOk X W a S) (hg : Gl X "sorted" := by rfl) (hg2 : Gl X "set" := by rfl)
    (na : starEach [a] X.env = (false, eval a X.env) :: starEach [] X.env := by rfl) : EOk X W (.Call (.Name "sorted" p) [.Call (.Name "set" p2) [a] [] q] [] pos) (s1 fSortSet S) :=
  ⟨PE.imp (pe_sortSet hc hg hm hg2 hm2 ha.pe na) fun σ H Q ⟨P, ρ, A, st, h⟩ => ⟨P, ρ, A, st, by
    unfold s1 at h
    cases hs : S ρ with
    | bad => simp only [hs, Res.bind] at h
    | exc x => simp only [hs, Res.bind] at h; exact h
    | ok d =>
      simp only [hs, Res.bind] at h
      intro v P1 H1 B1 e1 r o
      cases hf : fSortSet d with
      | none => rw [hf] at h; exact h.elim
      | some z =>
        rw [hf] at h
        have fin : ∀ {l : Addr} {xs : List V} {ds : List D} {B : List Addr}, v = .ref l → SqL X.K H1 l xs → RelL (gd X) P1 H1 xs ds B → ((intsD ds).bind fun ns => if ns.length < 64 then some (D.lst true ((sortI ns).map .int)) else none) = some z →
            ∃ (l : Addr) (ns : List Int), v = .ref l ∧ SqL X.K H1 l (ns.map V.int) ∧ ns.length < 64 ∧ ∀ (ms : List Int) (b : Addr), ms.Pairwise (· < ·) → (∀ k, k ∈ ms ↔ k ∈ ns) → H1 b = none → Q (.ref b) (upd H1 b (.lst (ms.map V.int))) := by
          intro l xs ds B ev hq rl hz
          cases hi : intsD ds with
          | none => rw [hi] at hz; cases hz
          | some ns =>
            rw [hi] at hz
            simp only [Option.bind_some] at hz
            split at hz
            · rename_i few
              cases hz
              have ex := ints_of_rel rl hi
              subst ex
              refine ⟨l, ns, ev, hq, few, fun ms b up mem hb => ?_⟩
              have em : ms = sortI ns := up_unique up (sortI_up ns) fun k => (mem k).trans sortI_mem.symm
              subst em
              exact post_lst e1.und (Post.ext h st.und e1) (ints_rel _) hb
            · cases hz
        cases r with
        | lstF hP rl => exact fin rfl (SqL.of (e1.und.lst hP)) rl hf
        | lstO hH rl => exact fin rfl (SqL.of hH) rl hf
        | _ => simp [fSortSet] at hf⟩⟩
end
end RL
namespace RL
open PySem PySem.Spec PyProof.Rows L2
def tLMv (G : Gd) (W : WX) (S : Env → Res (List D × Env)) : TA := fun σ H Q => ∃ P ρ A, StRel G P H σ ρ A ∧ match S ρ with
  | .ok r => ∀ vs P' H' B A', Ext P H P' H' [] → RelL G P' H' vs r.1 B → StRel G P' H' σ r.2 A' → (∀ b ∈ A', b ∈ A) → (B ++ A').Nodup → (∀ b ∈ B, P' b = none ∧ (H b = none ∨ b ∈ A)) → Q vs H'
  | .exc x => PostX G P H W σ x
  | .bad => False
structure AMk (X : Cx) (W : WX) (es : List Expr) (S : Env → Res (List D × Env)) : Prop where pa : PA X es (tLMv (gd X) W S)
section
variable {X : Cx} {W : WX} {L : List Nat} {e : Expr} {es : List Expr} {pos : Pos} {S : Env → Res D} {T : Env → Res (List D × Env)}
end
end RL
namespace RL
open PySem PySem.Spec PyProof.Rows L2
section
variable {X : Cx} {W : WX} {L : List Nat} {e a b o f : Expr} {pos apos cpos : Pos} {Sa Sb S So : Env → Res D} {k : Nat}
def isDct : D → Bool
  | .dct _ _ _ => true
  | _ => false
end
end RL
namespace RL
open PySem PySem.Spec PyProof.Rows L2
section
variable {P : Program} {w : World} {A : Around} {E : Value → Shared → Prop} {s : Shared} {T : String} {r d : Addr} {n : Nat} {Pv : Nat → Value → Prop} {OK : Heap → Prop}
end
section
variable {X : Cx} {W : WX} {e : Expr} {S : Env → Res D} {p apos cpos pos : Pos}
end
end RL
namespace RL
open PySem PySem.Spec PyProof.Rows L2
def tDp (G : Gd) (W : WX) (S : Env → Res (List (Key × D))) : Sl → Hp → (List (V × V) → Hp → Prop) → Prop := fun σ H Q => ∃ P ρ A, StRel G P H σ ρ A ∧ match S ρ with
  | .ok r => ∀ vs P' H' B, Ext P H P' H' [] → RelL G P' H' vs (r.map (·.2)) B → Fresh P' H B → Q ((r.map fun z => kV z.1).zip vs) H'
  | .exc x => PostX G P H W σ x
  | .bad => False
structure DpOk (X : Cx) (W : WX) (keys : List (Option Expr)) (values : List Expr) (S : Env → Res (List (Key × D))) : Prop where
  ex : ∃ trs, (∀ pos, PPs X pos keys values trs) ∧ ∀ σ H Q, tDp (gd X) W S σ H Q → tPairs trs σ H Q
section
variable {X : Cx} {W : WX} {pos : Pos} {k v : Expr} {ks : List (Option Expr)} {vs : List Expr} {Sk Sv : Env → Res D} {T : Env → Res (List (Key × D))}
end
end RL
namespace RL
open PySem PySem.Spec PyProof.Rows L2
section
variable {X : Cx} {W : WX} {e : Expr} {S : Env → Res D} {pos : Pos}
def fTux : D → Option D
  | .lst _ ds => if cleanL ds = true then some (.tux ds) else none
  | _ => none
theorem call_tupleX : CallR X (.type "tuple") (fun vs H Q => ∃ a ws, vs = [V.ref a] ∧ SqL X.K H a ws ∧ ∀ (l : Addr) (o : Obj), o.dict = none → H l = none → Q (.ref l) (upd H l (.frz o (.tup ws)))) := by
  intro pn s0 σ H vs us Q J rv h
  obtain ⟨a, ws, rfl, hq, q⟩ := h
  obtain ⟨u, rfl, ru⟩ := vals1 rv
  cases ru
  obtain ⟨its, rw', pl, hz⟩ := J.list hq
  have hlen := rw'.length
  refine call_tuple_list pl.isList (fun g kp => ?_) (by simp only [List.size_toArray]; omega)
  have J1 : Inv X pn σ H { s0 with heap := g } := J.kept (t' := s0.toks) kp
  have at_ : (g.push { cls := .type "tuple", data := .seq its.toArray }).get? g.objs.size = some { cls := .type "tuple", data := .seq its.toArray } := Heap.get?_push_size _ rfl
  have J2 : Inv X pn σ (upd H g.objs.size (.frz { cls := .type "tuple", data := .seq its.toArray } (.tup ws))) { s0 with heap := g.push { cls := .type "tuple", data := .seq its.toArray } } :=
    J1.laid (t' := s0.toks) (fun b o z => Heap.get?_push_of_some _ z) (Nat.le_refl _) (show ObjOk X.prog X.w _ _ _ (.frz _ (.tup ws)) from ⟨at_, hz, its, rw', IsTup.new _ _⟩)
  exact ⟨.ref g.objs.size, _, J2, rfl, q _ _ rfl (J1.hok.fresh (Nat.le_refl _))⟩
theorem post_tux {G : Gd} {P H : Hp} {Q : VK} {ds : List D} {xs : List V} {p : Addr} {o : Obj} (u : Under P H) (h : Post G P H Q (.tux ds)) (ho : o.dict = none) (r : RelL G P H xs ds []) (hp : H p = none) : Q (.ref p) (upd H p (.frz o (.tup xs))) :=
  h _ _ _ _ (ext_fix u hp) (.tux upd_same ho (r.mono (ext_fix (o := .frz o (.tup xs)) u hp).same (by simp))) Fresh.nil
theorem c_tux : CallR X (.type "tuple") (rC (gd X) (on1 fTux)) := CallR.imp call_tupleX fun xs H Q h => by
  obtain ⟨v, P, d, B, z, rfl, un, r, o, hf, q⟩ := rC1 h
  cases r with
  | lstF q1 r =>
    simp only [fTux] at hf
    split at hf
    · rename_i c; cases hf; exact ⟨_, _, rfl, un.seqL (SqL.of q1), fun l o ho hl => post_tux un q ho (r.nil_of c) hl⟩
    · cases hf
  | lstO q1 r =>
    simp only [fTux] at hf
    split at hf
    · rename_i c; cases hf; exact ⟨_, _, rfl, SqL.of q1, fun l o ho hl => post_tux un q ho (r.nil_of c) hl⟩
    · cases hf
  | _ => simp [fTux] at hf
def D.tp1 : D → D
  | .tux ds => .tup ds
  | d => d
mutual
def D.tp : D → D
  | .tux ds => .tup (tpL ds)
  | .tup ds => .tup (tpL ds)
  | d => d
def tpL : List D → List D
  | [] => []
  | d :: ds => d.tp :: tpL ds
end
theorem Rel.tp1 {G : Gd} {P H : Hp} {v : V} {d : D} {A : List Addr} (r : Rel G P H v d A) : Rel G P H v d.tp1 A := by
  cases r with
  | tux h e r => exact .tup (.inl (.inr ⟨_, h⟩)) r
  | _ => constructor <;> assumption
mutual
theorem Rel.tp {G : Gd} {P H : Hp} : ∀ {v : V} {d : D} {A : List Addr}, Rel G P H v d A → Rel G P H v d.tp A
  | _, _, _, .tux h e r => by simp only [D.tp]; exact .tup (.inl (.inr ⟨_, h⟩)) (RelL.tp r)
  | _, _, _, .tup q r => by simp only [D.tp]; exact .tup q (RelL.tp r)
  | _, _, _, .non => by simp only [D.tp]; exact .non
  | _, _, _, .bl b => by simp only [D.tp]; exact .bl b
  | _, _, _, .int b => by simp only [D.tp]; exact .int b
  | _, _, _, .str b => by simp only [D.tp]; exact .str b
  | _, _, _, .scr q => by simp only [D.tp]; exact .scr q
  | _, _, _, .lstF q r => by simp only [D.tp]; exact .lstF q r
  | _, _, _, .lstO q r => by simp only [D.tp]; exact .lstO q r
  | _, _, _, .dctF q l r => by simp only [D.tp]; exact .dctF q l r
  | _, _, _, .dctO q l r => by simp only [D.tp]; exact .dctO q l r
  | _, _, _, .objF c q l r => by simp only [D.tp]; exact .objF c q l r
  | _, _, _, .objO c q l r => by simp only [D.tp]; exact .objO c q l r
  | _, _, _, .exn c q x => by simp only [D.tp]; exact .exn c q x
theorem RelL.tp {G : Gd} {P H : Hp} : ∀ {vs : List V} {ds : List D} {A : List Addr}, RelL G P H vs ds A → RelL G P H vs (tpL ds) A
  | _, _, _, .nil => by simp only [tpL]; exact .nil
  | _, _, _, .cons r t => by simp only [tpL]; exact .cons (Rel.tp r) (RelL.tp t)
end
def sTo (f : D → D) (S : Env → Res D) : Env → Res D := fun ρ => (S ρ).bind fun d => .ok (f d)
theorem e_to {f : D → D} (hf : ∀ {G : Gd} {P H : Hp} {v : V} {d : D} {A : List Addr}, Rel G P H v d A → Rel G P H v (f d) A) (he : EOk X W e S) : EOk X W e (sTo f S) := ⟨PE.imp he.pe fun σ H Q ⟨P, ρ, A, st, h⟩ => ⟨P, ρ, A, st, by
  unfold sTo at h
  cases hs : S ρ with
  | bad => simp only [hs, Res.bind] at h
  | exc x => simp only [hs, Res.bind] at h; exact h
  | ok d =>
    simp only [hs, Res.bind] at h
    exact fun v P1 H1 B e1 r fr => h v P1 H1 B e1 (hf r) fr⟩⟩
theorem b_to {f : D → D} (hf : ∀ {G : Gd} {P H : Hp} {v : V} {d : D} {A : List Addr}, Rel G P H v d A → Rel G P H v (f d) A) (he : BOk X W e S) : BOk X W e (sTo f S) := ⟨PE.imp he.pe fun σ H Q ⟨P, ρ, A, st, h⟩ => ⟨P, ρ, A, st, by
  unfold sTo at h
  cases hs : S ρ with
  | bad => simp only [hs, Res.bind] at h
  | exc x => simp only [hs, Res.bind] at h; exact h
  | ok d =>
    simp only [hs, Res.bind] at h
    exact fun v P1 H1 B e1 r fr => h v P1 H1 B e1 (hf r) fr⟩⟩
theorem e_tp1 (he : EOk X W e S) : EOk X W e (sTo D.tp1 S) := e_to Rel.tp1 he
theorem b_tp1 (he : BOk X W e S) : BOk X W e (sTo D.tp1 S) := b_to Rel.tp1 he
@[simp] theorem tp1_x {ds : List D} : (D.tux ds).tp1 = .tup ds := rfl
@[simp] theorem tp1_t {ds : List D} : (D.tup ds).tp1 = .tup ds := rfl
@[simp] theorem clean_x {ds : List D} : (D.tux ds).clean = cleanL ds := by simp [D.clean]
@[simp] theorem frz_x {ds : List D} : (D.tux ds).frz = .tux (frzL ds) := by simp [D.frz]
@[simp] theorem sTo_ap {f : D → D} {ρ : Env} : sTo f S ρ = (S ρ).bind fun d => .ok (f d) := rfl
end
end RL
namespace RL
open PySem PySem.Spec PyProof.Rows L2
section
variable {prog : Program} {w : World} {A : Around} {E : Value → Shared → Prop} {s : Shared} {en : PySem.Env} {x : Str} {m : Str → Option Value} {v y : Value} {Q : Value → Shared → Prop} {p1 p2 p3 p4 : Pos} {j : Nat}
structure Lcl (en : PySem.Env) (s : Shared) (m : Str → Option Value) : Prop where
  kind : en.scope.kind = .function
  ns : s.heap.Ns en.locals m
end
end RL
namespace RL
open PySem PySem.Spec PyProof.Rows L2
section
variable {X : Cx} {pn : List (Addr × Obj)} {σ : Sl} {H P : Hp} {s : Shared} {c T : Addr} {q : Str}
structure LamAt (X : Cx) (c T : Addr) : Prop where
  code : X.env.code = .ref c
  hd : PySem.W.CodeHd X.base c T
  bm : X.base.BuiltinsAt X.mg T
  ne : mainGlobals ≠ T
  inT : (T, X.env.qual ++ "<lambda>") ∈ tabsOf X.K
end
structure KeyOk (key : D → PyData) (is : D → Bool) (KA : Heap → Value → PyData → Prop) : Prop where
  at_ : ∀ {X : Cx} {pn : List (Addr × Obj)} {σ : Sl} {P H : Hp} {s : Shared} {v : V} {u : Value} {d : D}, Inv X pn σ H s → Under P H → Rel (gd X) P H v d [] → is d = true → RelV v u → KA s.heap u (key d)
  alike : ∀ d d', is d = true → is d' = true → PySem.W.alike (key d) (key d') = true
  sorts : ∀ ds : List D, (∀ d ∈ ds, is d = true) → PySem.W.Sortable (ds.map key)
  deep : ∀ d, (key d).depth ≤ 100
  keeps : ∀ (h h' : Heap) (v : Value) (k : PyData), (∀ b o, h.get? b = some o → h'.get? b = some o) → KA h v k → KA h' v k
end RL
namespace RL
open PySem PySem.Spec PyProof.Rows L2
section
variable {X : Cx} {W : WX} {a : Expr} {S : Env → Res D} {p pos lpos kpos : Pos} {key : D → PyData} {is : D → Bool} {KA : Heap → Value → PyData → Prop}
end
end RL
namespace RL
open PySem PySem.Spec PyProof.Rows L2
structure LamCod (K : PySem.W.Frag) (mg : Str → Option Value) (base : Heap) (f : Addr) (qual : Str) : Prop where
  ex : ∃ c T o, (∀ cdv, Cod K f cdv → cdv = .ref c) ∧ tabOf o = some (T, qual ++ ".<locals>." ++ "<lambda>") ∧ (T, qual ++ ".<locals>." ++ "<lambda>") ∈ tabsOf K ∧ base.get? c = some o ∧ c ≠ T ∧ base.BuiltinsAt mg T ∧ mainGlobals ≠ T
structure KfOk (K : PySem.W.Frag) (mg : Str → Option Value) (name x : Str) (body : Expr) : Prop where
  ex : ∃ g oc od osl fd rp, mg name = some (.ref g) ∧ K.lookup g = some ⟨oc, od, .func fd, osl⟩ ∧ fd.scope.isCoroutine = false ∧ fd.scope.isGenerator = false ∧ fd.scope.kind = .function ∧ fd.body = .stmts [.Return (some body) rp] ∧
    PySem.W.codeIn K fd.code fd.qualname = true ∧ (∀ (s : Shared) (v : Value), BindsTo s fd ⟨[v], []⟩ [(x, v)]) ∧ fd.scope.names.lookup x = some .local ∧ ∀ y ∈ fd.scope.names, y.2 ≠ .cell
section
variable {X : Cx} {W : WX} {a : Expr} {S : Env → Res D} {p pos kpos rpos p2 p3 : Pos} {key : D → PyData} {is : D → Bool} {KA : Heap → Value → PyData → Prop}
end
end RL
namespace RL
open PySem PySem.Spec PyProof.Rows L2
end RL
namespace RL
open PySem PySem.Spec PyProof.Rows L2
mutual
def ownOk : D → Bool
  | .tup ds => ownOkL ds
  | .lst true ds => ownOkL ds
  | .dct true _ _ => false
  | .obj true _ _ ds => ownOkL ds
  | _ => true
def ownOkL : List D → Bool
  | [] => true
  | d :: ds => ownOk d && ownOkL ds
end
section
variable {G : Gd} {P P' H H' : Hp}
def Kind (o : Option HO) : Prop := (∃ xs, o = some (.lst xs)) ∨ ∃ C dx fs, o = some (.ins C dx fs)
mutual
theorem Rel.kind : ∀ {v : V} {d : D} {A : List Addr}, Rel G P H v d A → ownOk d = true → ∀ b ∈ A, Kind (H b)
  | _, _, _, .tup _ r, h, b, hb => RelL.kind r (by simpa [ownOk] using h) b hb
  | _, _, _, .lstO q r, h, b, hb => (List.mem_cons.mp hb).elim (fun e => e ▸ .inl ⟨_, q⟩) (RelL.kind r (by simpa [ownOk] using h) b)
  | _, _, _, .dctO q _ r, h, b, hb => by simp [ownOk] at h
  | _, _, _, .objO _ q _ r, h, b, hb => (List.mem_cons.mp hb).elim (fun e => e ▸ .inr ⟨_, _, _, q⟩) (RelL.kind r (by simpa [ownOk] using h) b)
  | _, _, _, .non, _, b, hb => by simp at hb
  | _, _, _, .bl _, _, b, hb => by simp at hb
  | _, _, _, .int _, _, b, hb => by simp at hb
  | _, _, _, .str _, _, b, hb => by simp at hb
  | _, _, _, .lstF _ _, _, b, hb => by simp at hb
  | _, _, _, .scr _, _, b, hb => by simp at hb
  | _, _, _, .tux _ _ _, _, b, hb => by simp at hb
  | _, _, _, .dctF _ _ _, _, b, hb => by simp at hb
  | _, _, _, .objF _ _ _ _, _, b, hb => by simp at hb
  | _, _, _, .exn _ _ _, _, b, hb => by simp at hb
theorem RelL.kind : ∀ {vs : List V} {ds : List D} {A : List Addr}, RelL G P H vs ds A → ownOkL ds = true → ∀ b ∈ A, Kind (H b)
  | _, _, _, .nil, _, b, hb => by simp at hb
  | _, _, _, .cons r t, h, b, hb => by
    simp only [ownOkL, Bool.and_eq_true] at h
    exact (List.mem_append.mp hb).elim (Rel.kind r h.1 b) (RelL.kind t h.2 b)
end
end
section
variable {X : Cx} {W : WX} {k : Nat} {f : Addr} {fd : FuncData} {ps : List Str} {sp : Sp} {x : Str} {p pos : Pos} {e : Expr} {es : List Expr}
def sFz (S : Env → Res D) : Env → Res D := fun ρ => (S ρ).bind fun d => .ok d.frz
@[simp] theorem sFz_ap {S : Env → Res D} {ρ : Env} : sFz S ρ = (S ρ).bind fun d => .ok d.frz := rfl
theorem e_fz {S : Env → Res D} (h : EOk X W e S) : EOk X W e (sFz S) := ⟨PE.imp h.pe fun σ H Q ⟨P, ρ, A, st, q⟩ => ⟨P, ρ, A, st, by
  unfold sFz at q
  cases hs : S ρ with
  | bad => simp only [hs, Res.bind] at q
  | exc x => simp only [hs, Res.bind] at q; exact q
  | ok d =>
    simp only [hs, Res.bind] at q
    intro v P' H' B e1 r f
    obtain ⟨e2, sm⟩ := give_ext0 st.und e1 f
    exact q v _ H' [] e2 (r.frz sm fun b hb => give_in hb) Fresh.nil⟩⟩
end
end RL
namespace RL
open PySem PySem.Spec PyProof.Rows L2
section
variable {X : Cx} {W : WX} {e : Expr} {S : Env → Res D} {td : TE} {p apos cpos pos : Pos}
end
end RL
namespace RL
open PySem PySem.Spec PyProof.Rows L2
def unl (H : Hp) (B : List Addr) : Hp := fun b => if b ∈ B then (match H b with
  | some (.frz _ u) => some u
  | x => x) else H b
section
variable {G : Gd} {P P' H H' : Hp}
def KindD (o : Option HO) : Prop := Kind o ∨ ∃ kvs, o = some (.dK kvs)
mutual
theorem Rel.kindD : ∀ {v : V} {d : D} {A : List Addr}, Rel G P H v d A → ∀ b ∈ A, KindD (H b)
  | _, _, _, .tup _ r, b, hb => RelL.kindD r b hb
  | _, _, _, .lstO q r, b, hb => (List.mem_cons.mp hb).elim (fun e => e ▸ .inl (.inl ⟨_, q⟩)) (RelL.kindD r b)
  | _, _, _, .dctO q _ r, b, hb => (List.mem_cons.mp hb).elim (fun e => e ▸ .inr ⟨_, q⟩) (RelL.kindD r b)
  | _, _, _, .objO _ q _ r, b, hb => (List.mem_cons.mp hb).elim (fun e => e ▸ .inl (.inr ⟨_, _, _, q⟩)) (RelL.kindD r b)
  | _, _, _, .non, b, hb => by simp at hb
  | _, _, _, .bl _, b, hb => by simp at hb
  | _, _, _, .int _, b, hb => by simp at hb
  | _, _, _, .str _, b, hb => by simp at hb
  | _, _, _, .lstF _ _, b, hb => by simp at hb
  | _, _, _, .scr _, b, hb => by simp at hb
  | _, _, _, .tux _ _ _, b, hb => by simp at hb
  | _, _, _, .dctF _ _ _, b, hb => by simp at hb
  | _, _, _, .objF _ _ _ _, b, hb => by simp at hb
  | _, _, _, .exn _ _ _, b, hb => by simp at hb
theorem RelL.kindD : ∀ {vs : List V} {ds : List D} {A : List Addr}, RelL G P H vs ds A → ∀ b ∈ A, KindD (H b)
  | _, _, _, .nil, b, hb => by simp at hb
  | _, _, _, .cons r t, b, hb => (List.mem_append.mp hb).elim (Rel.kindD r b) (RelL.kindD t b)
end
end
section
variable {X : Cx} {W : WX} {k : Nat} {f : Addr} {fd : FuncData} {ps : List Str} {x : Str} {p pos : Pos} {e : Expr} {es : List Expr}
theorem StRel.view {G : Gd} {P H : Hp} {σ : Sl} {ρ : Env} {A : List Addr} {i : Nat} {d : D} (st : StRel G P H σ ρ A) (h : ρ[i]? = some (some d)) : ∃ B A', (∀ b ∈ B, P b = none) ∧ (∀ b ∈ B, KindD (H b)) ∧ StRel G (give P H B) H σ (ρ.set i (some d.frz)) A' := by
  have hi : i < ρ.length := (List.getElem?_eq_some_iff.mp h).1
  obtain ⟨B, C, p, q, hv⟩ := st.env.out hi
  rcases hv with ⟨d', v, h1, h2, r⟩ | ⟨h1, _⟩
  · rw [h] at h1
    cases h1
    have bA : ∀ b ∈ B, b ∈ A := fun b hb => p.symm.subset (List.mem_append_left _ hb)
    have cA : ∀ b ∈ C, b ∈ A := fun b hb => p.symm.subset (List.mem_append_right _ hb)
    have off : ∀ b ∈ B, P b = none := fun b hb => st.off b (bA b hb)
    have g := give_ext (A := B) st.und off
    obtain ⟨n1, n2, n3⟩ := List.nodup_append.mp (p.nodup_iff.mp st.nd)
    have rf : Rel G (give P H B) H v d.frz [] := r.frz g.same fun b hb => give_in hb
    have qc : EnvRel G (give P H B) H σ (ρ.set i none) C := q.mono g.same fun _ _ => rfl
    obtain ⟨A', p', q'⟩ := qc.put (i := i) rf (by simpa using hi) (by simp [hi])
    rw [List.set_set, EnvRel.set_same h2] at q'
    refine ⟨B, A', off, r.kindD, ⟨g.und, q', p'.symm.nodup_iff.mp (by simpa using n2), fun b hb => ?_, st.mks.mono g.same⟩⟩
    have hb : b ∈ C := by simpa using p'.subset hb
    rw [give_out fun z => n3 b z b hb rfl]
    exact st.off b (cA b hb)
  · rw [h] at h1; cases h1
end
end RL
namespace RL
open PySem PySem.Spec PyProof.Rows L2
section
variable {ρ : Env}
@[simp] theorem sIter_ap {S : Env → Res D} : sIter S ρ = (S ρ).bind fun d => opt (iterD d) := rfl
@[simp] theorem sVals_ap {S : Env → Res D} : sVals S ρ = (S ρ).bind fun d => opt (valsD d) := rfl
@[simp] theorem sItems_ap {S : Env → Res D} : sItems S ρ = (S ρ).bind fun d => opt (itemsD d) := rfl
@[simp] theorem iterD_l {o : Bool} {ds : List D} (h : cleanL ds = true) : iterD (.lst o ds) = some ds := by simp [iterD, h]
@[simp] theorem iterD_t {ds : List D} (h : cleanL ds = true) : iterD (.tup ds) = some ds := by simp [iterD, h]
@[simp] theorem iterD_scr {ns : List Int} : iterD (.scr ns) = some (ns.map .int) := rfl
@[simp] theorem iterD_s {x : Str} : iterD (.str x) = some (x.cps.toList.map fun c => .str ⟨#[c]⟩) := rfl
@[simp] theorem sM1_ap {f : Str → D → Option D} {So Sa : Env → Res D} : sM1 f So Sa ρ = (So ρ).bind fun x => match x with
  | .str a => (Sa ρ).bind fun y => opt (f a y)
  | _ => .bad := rfl
@[simp] theorem sFld_ap {cs : List Str} {f : Str} {S : Env → Res D} : sFld cs f S ρ = (S ρ).bind fun d => opt (getF cs f d) := rfl
@[simp] theorem plVar_ap {i : Nat} {d : D} (h : ρ[i]? = some (some d)) : plVar i ρ = .ok ⟨d, fun d' => ρ.set i (some d')⟩ := by simp [plVar, h]
@[simp] theorem plIx_ap {Pa : Env → Res Plc} {Sb : Env → Res D} : plIx Pa Sb ρ = (Pa ρ).bind fun p => (Sb ρ).bind fun y => opt ((chIx p.at_ y).map p.sub) := rfl
@[simp] theorem plFld_ap {cs : List Str} {f : Str} {Pa : Env → Res Plc} : plFld cs f Pa ρ = (Pa ρ).bind fun p => opt ((chFld cs f p.at_).map p.sub) := rfl
@[simp] theorem sMut_ap {f : D → List D → Option D} {Pl : Env → Res Plc} {Sa : Env → Res (List D)} : sMut f Pl Sa ρ = (Pl ρ).stm ρ fun p => if isLstO p.at_ = true then (Sa ρ).stm ρ fun ds => put ((f p.at_ ds).map p.set) else .bad := by
  unfold sMut Res.stm put
  cases Pl ρ with
  | ok p =>
    simp only
    split
    · cases Sa ρ with
      | ok ds => simp only; cases f p.at_ ds <;> rfl
      | _ => rfl
    · rfl
  | _ => rfl
@[simp] theorem sPutD_ap {fz : Bool} {Pl : Env → Res Plc} {Sk Se : Env → Res D} : sPutD fz Pl Sk Se ρ = (Se ρ).stm ρ fun d => (Pl ρ).stm ρ fun p => (Sk ρ).stm ρ fun k => put ((putD k (if fz then d.frz else d) p.at_).map p.set) := by
  unfold sPutD Res.stm put
  cases Se ρ with
  | ok d =>
    simp only
    cases Pl ρ with
    | ok p =>
      simp only
      cases Sk ρ with
      | ok k => simp only; cases putD k (if fz = true then d.frz else d) p.at_ <;> rfl
      | _ => rfl
    | _ => rfl
  | _ => rfl
@[simp] theorem sSetF_ap {cs : List Str} {f : Str} {fz : Bool} {Pl : Env → Res Plc} {S : Env → Res D} : sSetF cs f fz Pl S ρ = (S ρ).stm ρ fun d => (Pl ρ).stm ρ fun p => put ((setF cs f (if fz then d.frz else d) p.at_).map p.set) := by
  unfold sSetF Res.stm put
  cases S ρ with
  | ok d =>
    simp only
    cases Pl ρ with
    | ok p => simp only; cases setF cs f (if fz = true then d.frz else d) p.at_ <;> rfl
    | _ => rfl
  | _ => rfl
@[simp] theorem put_none : put none = .bad := rfl
@[simp] theorem isLstO_t {ds : List D} : isLstO (.lst true ds) = true := rfl
@[simp] theorem sRaise_ap {c : Str} : sRaise c ρ = .exc (.exn c [] []) ρ := rfl
@[simp] theorem sMeth_ap {m : Str} {tab : List (Str × (List D → FR))} {n : Nat} {So : Env → Res D} {Ss : Env → Res (List D)} : sMeth m tab n So Ss ρ = (So ρ).bind fun o => match o with
  | .obj _ c ns _ => if m ∉ ns then (match tabGo tab c with
    | some φ => (Ss ρ).bind fun ds => if ds.length + 1 = n then (φ (frzL (o :: ds))).res else .bad
    | none => .bad) else .bad
  | _ => .bad := by
  unfold sMeth
  cases So ρ with
  | ok o =>
    simp only [bind_ok]
    cases o <;> rfl
  | _ => rfl
@[simp] theorem sMake_ap {c : Str} {n : Nat} {φ : List D → FR} {S : Env → Res (List D)} : sMake c n φ S ρ = (S ρ).bind fun ds => mkRes c n φ ds := rfl
@[simp] theorem endF_nx1 {d : D} {ρ : Env} (h : ρ[0]? = some (some d)) : endF [0] (.nx ρ) = .ok .non [d] := by simp [endF, outsOf, h]
@[simp] theorem mAppend_l {ds : List D} {d : D} : mAppend (.lst true ds) [d] = if ds.length < sizeLine then some (.lst true (ds ++ [d])) else none := by
  simp [mAppend]
theorem sLc_ok {Si : Env → Res (List D)} {t : Tg} {vs : List Nat} {T : Env → Res Bool} {E : Env → Res D} {ds es : List D} (h : Si ρ = .ok ds) (hl : ds.length ≤ sizeLine) (hr : lcRun (lcOne t vs T E ρ) ds = some es) : sLc Si t vs T E ρ = .ok (.lst true es) := by
  simp [sLc, h, hl, hr]
end
theorem lcRun_of {α : Type} {e : α → D} {g : α → D} {f : D → Res (Option D)} : ∀ {xs : List α}, (∀ x ∈ xs, f (e x) = .ok (some (g x))) → lcRun f (xs.map e) = some (xs.map g)
  | [], _ => rfl
  | x :: xs, h => by
    rw [List.map_cons, lcRun, h x List.mem_cons_self]
    simp only
    rw [lcRun_of fun e he => h e (List.mem_cons_of_mem _ he)]
    rfl
theorem lcRun_fm {α : Type} {e : α → D} {g : α → Option D} {f : D → Res (Option D)} : ∀ {xs : List α}, (∀ x ∈ xs, f (e x) = .ok (g x)) → lcRun f (xs.map e) = some (xs.filterMap g)
  | [], _ => rfl
  | x :: xs, h => by
    rw [List.map_cons, lcRun, h x List.mem_cons_self, List.filterMap_cons]
    have ih := lcRun_fm (e := e) (g := g) (f := f) fun e he => h e (List.mem_cons_of_mem _ he)
    cases g x with
    | none => exact ih
    | some y => simp only; rw [ih]; rfl
theorem lcRun_fl {α : Type} {e g : α → D} {p : α → Bool} {f : D → Res (Option D)} {xs : List α} (h : ∀ x ∈ xs, f (e x) = .ok (if p x = true then some (g x) else none)) : lcRun f (xs.map e) = some ((xs.filter p).map g) := by
  rw [lcRun_fm h]
  congr 1
  induction xs with
  | nil => rfl
  | cons x xs ih =>
    have ih := ih fun y hy => h y (List.mem_cons_of_mem _ hy)
    rw [List.filterMap_cons, List.filter_cons]
    cases p x with
    | true => simp [ih]
    | false => simp [ih]
theorem for_inv {t : Tg} {S : Env → SRes} (I : Nat → Env → Prop) : ∀ {ds : List D} {k : Nat} {ρ : Env}, I k ρ → (∀ i d ρ, ds[i]? = some d → I (k + i) ρ → ∃ ρ1 ρ2, t.set d ρ = some ρ1 ∧ S ρ1 = .nx ρ2 ∧ I (k + i + 1) ρ2) → ∃ ρ', forRun t S ds ρ = .nx ρ' ∧ I (k + ds.length) ρ'
  | [], k, ρ, h, _ => ⟨ρ, rfl, h⟩
  | d :: ds, k, ρ, h, st => by
    obtain ⟨ρ1, ρ2, h1, h2, h3⟩ := st 0 d ρ rfl h
    obtain ⟨ρ', q1, q2⟩ := for_inv I (ds := ds) (k := k + 1) h3 fun i d ρ hd hi => by
      have := st (i + 1) d ρ (by simpa using hd) (by rw [show k + (i + 1) = k + 1 + i by omega]; exact hi)
      rw [show k + (i + 1) + 1 = k + 1 + i + 1 by omega] at this
      exact this
    refine ⟨ρ', ?_, by rw [List.length_cons, show k + (ds.length + 1) = k + 1 + ds.length by omega]; exact q2⟩
    rw [forRun_cons, h1, put_some, andThen_nx, h2, loopK_nx, q1]
theorem cut_nn {α : Type} (xs : List α) (i j : Nat) : cutL xs (some (i : Int)) (some (j : Int)) = (xs.drop i).take (j - i) := by
  unfold cutL
  rw [HT.sIx_nat, HT.sIx_nat]
  by_cases h : i ≤ xs.length
  · rw [Nat.min_eq_left h]
    by_cases h2 : j ≤ xs.length
    · rw [Nat.min_eq_left h2]
    · rw [Nat.min_eq_right (by omega), List.take_of_length_le (by rw [List.length_drop]; omega), List.take_of_length_le (by rw [List.length_drop]; omega)]
  · rw [Nat.min_eq_right (a := i) (by omega), List.drop_of_length_le (Nat.le_refl _), List.drop_of_length_le (by omega)]
    simp
theorem cut_0n {α : Type} (xs : List α) (j : Nat) : cutL xs none (some (j : Int)) = xs.take j := by
  unfold cutL
  rw [HT.sIx_nat, HT.sIx_none]
  by_cases h2 : j ≤ xs.length
  · rw [Nat.min_eq_left h2]; rfl
  · rw [Nat.min_eq_right (by omega), Nat.sub_zero, List.drop_zero, List.take_of_length_le (Nat.le_refl _), List.take_of_length_le (by omega)]
theorem cut_n0 {α : Type} (xs : List α) (i : Nat) : cutL xs (some (i : Int)) none = xs.drop i := by
  unfold cutL
  rw [HT.sIx_nat, HT.sIx_none]
  by_cases h2 : i ≤ xs.length
  · rw [Nat.min_eq_left h2, List.take_of_length_le (by rw [List.length_drop]; omega)]
  · rw [Nat.min_eq_right (by omega), List.drop_of_length_le (Nat.le_refl _), List.drop_of_length_le (by omega)]; simp
theorem opSl_l {o : Bool} {ds : List D} {lo hi : Option Int} (h : cleanL ds = true) : opSl (.lst o ds) lo hi = some (.lst true (cutL ds lo hi)) := by simp [opSl, h]
@[simp] theorem opAdd_s {x y : Str} (h : x.length + y.length ≤ sizeLine) : opAdd (.str x) (.str y) = some (.str (x ++ y)) := by simp [opAdd, h]
theorem opAdd_l {o o' : Bool} {xs ys : List D} (h : cleanL xs = true) (h' : cleanL ys = true) (hl : xs.length + ys.length ≤ sizeLine) : opAdd (.lst o xs) (.lst o' ys) = some (.lst true (xs ++ ys)) := by simp [opAdd, h, h', hl]
@[simp] theorem cleanL_strs {ns : List Str} : cleanL (ns.map .str) = true := cleanL_all.mpr fun d hd => by
  obtain ⟨i, _, rfl⟩ := List.mem_map.mp hd
  rfl
@[simp] theorem frzL_strs : ∀ {ns : List Str}, frzL (ns.map .str) = ns.map .str
  | [] => by simp [frzL]
  | n :: ns => by simp [frzL, D.frz, frzL_strs (ns := ns)]
theorem strsD_map : ∀ ys : List Str, strsD (ys.map .str) = some ys
  | [] => rfl
  | y :: ys => by simp [strsD, strsD_map ys]
theorem intsD_map : ∀ ys : List Int, intsD (ys.map .int) = some ys
  | [] => rfl
  | y :: ys => by simp [intsD, intsD_map ys]
@[simp] theorem fLenX_l {o : Bool} {ds : List D} : fLenX (.lst o ds) = some (.int ds.length) := rfl
@[simp] theorem fLenX_t {ds : List D} : fLenX (.tup ds) = some (.int ds.length) := rfl
@[simp] theorem fLenX_scr {ns : List Int} : fLenX (.scr ns) = some (.int ns.length) := rfl
theorem mod_pos' {i j : Int} (h : 0 < j) : opMod (.int i) (.int j) = some (.int (i % j)) := by rw [opMod_i (by omega), Int.fmod_eq_emod_of_nonneg _ (by omega)]
theorem fdiv_pos' {i j : Int} (h : 0 < j) (q : sml j = true) : opFdiv (.int i) (.int j) = some (.int (i / j)) := by rw [opFdiv_i (by omega) q, Int.fdiv_eq_ediv_of_nonneg _ (by omega)]
theorem ix_mem {α : Type} {xs : List α} {r : Int} (h0 : 0 ≤ r) (h : r < xs.length) : ∃ v, atI xs r = some v ∧ v ∈ xs := by
  obtain ⟨n, rfl⟩ := Int.eq_ofNat_of_zero_le h0
  rw [atI_nat]
  have : n < xs.length := by omega
  exact ⟨xs[n], List.getElem?_eq_getElem this, List.getElem_mem this⟩
theorem putKs_new {ks : List Key} {k : Key} (h : k ∉ ks) : ixOf ks k = none := by
  induction ks with
  | nil => rfl
  | cons a ks ih =>
    simp only [List.mem_cons, not_or] at h
    simp only [ixOf]
    rw [if_neg fun z => h.1 z.symm, ih h.2]
    rfl
abbrev sk (x : Str) : Key := .inr x
end RL
namespace RL
open PySem PySem.Spec PyProof.Rows L2
end RL
namespace RL
open PySem PySem.Spec PyProof.Rows L2
inductive CRes where
  | ok (d : D) (ρ : Env) | exc (x : D) (ρ : Env) | bad
def tC (G : Gd) (W : WX) (L : List Nat) (C : Env → CRes) : TE := fun σ H Q => ∃ P ρ A, StRel G P H σ ρ A ∧ match C ρ with
  | .ok d ρ' => ∀ v P' H' A' B, After G P H σ A L P' H' σ ρ' A' → Rel G P' H' v d B → (B ++ A').Nodup → (∀ b ∈ B, P' b = none ∧ (H b = none ∨ b ∈ A)) → Q v H'
  | .exc x ρ' => ∀ cls dx P' H' A', After G P H σ A L P' H' σ ρ' A' → XRel G P' cls dx x → W cls dx σ H'
  | .bad => False
structure COk (X : Cx) (W : WX) (L : List Nat) (e : Expr) (C : Env → CRes) : Prop where pe : PE X e (tC (gd X) W L C)
section
variable {X : Cx} {W : WX} {L : List Nat} {pos apos : Pos} {e o : Expr} {es : List Expr} {C : Env → CRes} {Pl : Env → Res Plc} {Ss : Env → Res (List D)} {c m : Str} {k : Nat} {ps : List Str} {φ : List D → FR}
theorem Foc.call {G : Gd} {P0 H0 P H P' H' : Hp} {σ : Sl} {ρ : Env} {A B R C : List Addr} {p : Plc} {v : V} {o' : D} (st : StRel G P0 H0 σ ρ A) (x : Ext P0 H0 P H []) (q : A.Perm (B ++ R))
    (w : ∀ P' H' e' B', Same P P' → (∀ b ∈ R, H' b = H b) → Rel G P' H' v e' B' → ∃ A', EnvRel G P' H' σ (p.set e') A' ∧ A'.Perm (B' ++ R)) (x3 : Ext P H P' H' B) (rc : Rel G P' H' v o' C) (nc : C.Nodup) (fc : ∀ b ∈ C, P' b = none ∧ (H b = none ∨ b ∈ B)) :
    ∃ A', After G P0 H0 σ A L P' H' σ (p.set o') A' ∧ A'.Perm (C ++ R) := by
  have hB : ∀ b ∈ B, b ∈ A := fun b hb => q.symm.subset (List.mem_append_left _ hb)
  have hR : ∀ b ∈ R, b ∈ A := fun b hb => q.symm.subset (List.mem_append_right _ hb)
  have st1 := st.ext x
  obtain ⟨n1, n2, n3⟩ := List.nodup_append.mp (q.nodup_iff.mp st.nd)
  have nRB : ∀ b ∈ R, b ∉ B := fun b hb z => n3 b z b hb rfl
  have atR : ∀ b ∈ R, ∃ oo, H b = some oo := fun b hb => st1.env.at b (hR b hb)
  have offR : ∀ b ∈ R, P b = none := fun b hb => st1.off b (hR b hb)
  obtain ⟨A', env, pm⟩ := w P' H' o' C x3.same (fun b hb => by
    obtain ⟨oo, ho⟩ := atR b hb
    rw [ho, x3.keep b oo ho (offR b hb) (nRB b hb)]) rc
  have offR' : ∀ b ∈ R, P' b = none := fun b hb => by
    cases z : P' b with
    | none => rfl
    | some u =>
      rcases x3.new b u z with y | y | y
      · rw [offR b hb] at y; cases y
      · obtain ⟨oo, ho⟩ := atR b hb
        rw [ho] at y; cases y
      · exact absurd y (nRB b hb)
  refine ⟨A', ⟨(x.more).transA st.und x3 fun b hb => .inr (hB b hb), ⟨x3.und, env, ?_, fun b hb => ?_, st1.mks.mono x3.same⟩, fun b hb => ?_, rfl, fun _ _ => rfl⟩, pm⟩
  · refine pm.nodup_iff.mpr (List.nodup_append.mpr ⟨nc, n2, fun y hy z hz e => ?_⟩)
    rcases (fc y hy).2 with u | u
    · obtain ⟨oo, ho⟩ := atR z hz
      rw [← e, u] at ho; cases ho
    · exact nRB z hz (e ▸ u)
  · rcases List.mem_append.mp (pm.subset hb) with z | z
    · exact (fc b z).1
    · exact offR' b z
  · rcases List.mem_append.mp (pm.subset hb) with z | z
    · rcases (fc b z).2 with y | y
      · exact .inl (x.free st.und y)
      · exact .inr (hB b y)
    · exact .inr (hR b z)
theorem PostX.call {G : Gd} {P H : Hp} {σ : Sl} {ρ : Env} {A : List Addr} {x : D} (st : StRel G P H σ ρ A) (h : ∀ cls dx P' H' A', After G P H σ A L P' H' σ ρ A' → XRel G P' cls dx x → W cls dx σ H') : PostX G P H W σ x := fun cls dx P' H' e r => h cls dx P' H' A (.pure st e) r
end
end RL
namespace RL
open PySem PySem.Spec PyProof.Rows L2
section
variable {X : Cx} {W : WX} {L : List Nat} {e : Expr} {st : Stmt} {S : Env → Res D}
end
end RL
namespace RL
open PySem PySem.Spec PyProof.Rows L2
section
variable {X : Cx} {W : WX} {pos : Pos} {L : List Nat} {Pl : Env → Res Plc}
def isDctO : D → Bool
  | .dct true _ _ => true
  | _ => false
def sDClr (Pl : Env → Res Plc) : Env → SRes := fun ρ => match Pl ρ with
  | .ok p => if isDctO p.at_ = true then .nx (p.set (.dct true [] [])) else .bad
  | .exc x => .exc x ρ
  | .bad => .bad
end
@[simp] theorem sDClr_ap {Pl : Env → Res Plc} {ρ : Env} : sDClr Pl ρ = (Pl ρ).stm ρ fun p => if isDctO p.at_ = true then .nx (p.set (.dct true [] [])) else .bad := by
  unfold sDClr Res.stm
  cases Pl ρ <;> rfl
end RL
namespace RL
open PySem PySem.Spec PyProof.Rows L2
section
variable {prog : Program} {w : World} {A : Around} {E : Value → Shared → Prop} {s : Shared}
end
section
variable {X : Cx} {W : WX} {e : Expr} {pos : Pos}
end
end RL
namespace RL
open PySem PySem.Spec PyProof.Rows L2
section
variable {X : Cx} {W : WX} {o e : Expr} {apos cpos : Pos} {So : Env → Res D} {Ss : Env → Res (List D)}
def sLm (f : D → D → Option D) (So : Env → Res D) (Ss : Env → Res (List D)) : Env → Res D := fun ρ => (So ρ).bind fun x => match x with
  | .lst ob ds => (Ss ρ).bind fun ys => match ys with
    | [y] => opt (f (.lst ob ds) y)
    | _ => .bad
  | _ => .bad
end
@[simp] theorem sLm_ap {f : D → D → Option D} {So : Env → Res D} {Ss : Env → Res (List D)} {ρ : Env} {ob : Bool} {ds : List D} {y : D} (h1 : So ρ = .ok (.lst ob ds)) (h2 : Ss ρ = .ok [y]) : sLm f So Ss ρ = opt (f (.lst ob ds) y) := by
  simp [sLm, h1, h2, Res.bind]
end RL
namespace RL
open PySem PySem.Spec PyProof.Rows L2
def dropKs (k : Key) (ks : List Key) : List Key := ks.filter fun g => decide (g ≠ k)
def dropVs {α : Type} (k : Key) : List Key → List α → List α
  | g :: ks, v :: vs => if g = k then dropVs k ks vs else v :: dropVs k ks vs
  | _, _ => []
section
variable {X : Cx} {W : WX} {pos : Pos} {L : List Nat} {Pl : Env → Res Plc} {Sk Sf : Env → Res D}
def popD (k : D) : D → Option D
  | .dct true ks ds => (keyOf k).map fun k => .dct true (dropKs k ks) (dropVs k ks ds)
  | _ => none
def sDPop (Pl : Env → Res Plc) (Sk Sf : Env → Res D) : Env → SRes := fun ρ => match Pl ρ with
  | .ok p => if isDctO p.at_ = true then (match Sk ρ with
    | .ok k => (match Sf ρ with
      | .ok _ => (match popD k p.at_ with
        | some d' => .nx (p.set d')
        | none => .bad)
      | .exc x => .exc x ρ
      | .bad => .bad)
    | .exc x => .exc x ρ
    | .bad => .bad) else .bad
  | .exc x => .exc x ρ
  | .bad => .bad
end
@[simp] theorem sDPop_ap {Pl : Env → Res Plc} {Sk Sf : Env → Res D} {ρ : Env} : sDPop Pl Sk Sf ρ = (Pl ρ).stm ρ fun p => if isDctO p.at_ = true then (Sk ρ).stm ρ fun k => (Sf ρ).stm ρ fun _ => match popD k p.at_ with
    | some d' => .nx (p.set d')
    | none => .bad else .bad := by
  unfold sDPop Res.stm
  cases Pl ρ <;> simp only
  split
  · cases Sk ρ <;> simp only
    cases Sf ρ <;> rfl
  · rfl
end RL
namespace RL
open PySem PySem.Spec PyProof.Rows L2
theorem Under.dk {P H : Hp} (u : Under P H) {a : Addr} {kvs : List (Key × V)} (h : P a = some (.dK kvs)) : Rd H a (.dK kvs) := by
  rcases u a _ h with h | ⟨o, k, e, h⟩ | ⟨q, ps, e, _⟩
  · exact .inl h
  · exact .inr ⟨o, h⟩
  · simp [mark] at e
section
variable {X : Cx} {k : Nat} {pins : List (Addr × Obj)} {σ : L2.St} {P H : Hp} {s : Shared}
end
section
variable {X : Cx} {W : WX} {L : List Nat} {rest : List Stmt} {S : Env → SRes}
end
end RL
namespace RL
open PySem PySem.Spec PyProof.Rows L2
section
variable {X : Cx}
end
end RL
namespace RL
open PySem PySem.Spec PyProof.Rows L2
section
variable {X : Cx} {W : WX} {pos : Pos} {L : List Nat} {S : Env → SRes}
end
end RL
namespace RL
open PySem PySem.Spec PyProof.Rows L2
section
variable {prog : Program} {w : World} {A : Around} {E : Value → Shared → Prop} {s : Shared}
end
end RL
namespace RL
open PySem PySem.Spec PyProof.Rows L2
section
variable {X : Cx} {W : WX} {e o : Expr} {pos apos : Pos} {f : Str} {cs : List Str} {L : List Nat}
def tGF (G : Gd) (L : List Nat) (cs : List Str) (f : Str) (Pl : Env → Res Plc) : TG := fun x σ H Q => ∃ P ρ A d, StRel G P H σ ρ A ∧ Rel G P H x d [] ∧ match Pl ρ with
  | .ok p => (match setF cs f d p.at_ with
    | some d' => ∀ σ' P' H' A', After G P H σ A L P' H' σ' (p.set d') A' → Q σ' H'
    | none => False)
  | _ => False
structure GFOk (X : Cx) (L : List Nat) (Pl : Env → Res Plc) (tg : Expr) (cs : List Str) (f : Str) : Prop where pg : PG X tg (tGF (gd X) L cs f Pl)
def tGFL (G : Gd) (L : List Nat) (Pl : Env → Res Plc) : List (List Str × Str) → TGs
  | [] => gNil
  | t :: ts => gCons (tGF G L t.1 t.2 Pl) (tGFL G L Pl ts)
structure GFsOk (X : Cx) (L : List Nat) (Pl : Env → Res Plc) (tgs : List Expr) (ts : List (List Str × Str)) : Prop where pgs : PGs X tgs (tGFL (gd X) L Pl ts)
end
end RL
namespace RL
open PySem PySem.Spec PyProof.Rows L2
def keyS (e : Int × Value) : Str := match e.2 with | .str x _ => x | _ => Str.empty
def GoodS (P : Program) (w : World) (e : Int × Value) : Prop := ∃ x tk, e.2 = Value.str x tk ∧ e.1 = (strKind P w).hash x
def SetS (P : Program) (w : World) (hh : Heap) (a : Addr) (S : Str → Bool) (n : Nat) : Prop :=
  ∃ o es ep t, hh.get? a = some o ∧ o.ExactSet ∧ o.data = .set es ep t ∧ (∀ e ∈ es.toList, GoodS P w e) ∧ (es.toList.map keyS).Nodup ∧ (∀ x, S x = true ↔ x ∈ es.toList.map keyS) ∧
    es.size < scanBound ∧ t.fits es.size = true ∧ es.size = n ∧ Ris t.place.toList ∧ (w.params.followText "set-order" = true ∨ t.led = true)
section
variable {P : Program} {w : World} {A : Around} {E : Value → Shared → Prop} {s : Shared} {a : Addr} {S : Str → Bool} {n : Nat}
theorem SetS.at {h h' : Heap} (R : SetS P w h a S n) (k : ∀ o, h.get? a = some o → h'.get? a = some o) : SetS P w h' a S n := by
  obtain ⟨o, es, ep, t, ho, r⟩ := R
  exact ⟨o, es, ep, t, k o ho, r⟩
theorem SetS.congr {h : Heap} {S' : Str → Bool} (R : SetS P w h a S n) (e : ∀ k, S' k = S k) : SetS P w h a S' n := by
  have : S' = S := funext e
  rw [this]; exact R
end
section
variable {X : Cx} {W : WX} {a : Expr} {S : Env → Res D} {p p2 q pos : Pos}
end
end RL
namespace PySem.SeqAt
open PySem PySem.Spec PyProof.Rows
section
variable {A : Around} {s : Shared}
end
end PySem.SeqAt
namespace RL
open PySem PySem.Spec PyProof.Rows L2
section
variable {X : Cx} {k : Nat}
end
end RL
namespace RL
open PySem PySem.Spec PyProof.Rows L2
theorem RelL.set {G : Gd} {P H : Hp} {v : V} {d : D} (r : Rel G P H v d []) : ∀ {vs : List V} {ds : List D} (j : Nat), RelL G P H vs ds [] → RelL G P H (vs.set j v) (ds.set j d) [] := fun {vs ds} j rl => by
  generalize hA : ([] : List Addr) = A at rl
  induction j generalizing vs ds A with
  | zero =>
    cases rl with
    | nil => exact .nil
    | @cons v0 d0 A1 vs ds B1 r1 r2 =>
      obtain ⟨e1, e2⟩ := List.append_eq_nil_iff.mp hA.symm
      subst e1; subst e2
      exact RelL.cons r r2
  | succ j ih =>
    cases rl with
    | nil => exact .nil
    | @cons v0 d0 A1 vs ds B1 r1 r2 =>
      obtain ⟨e1, e2⟩ := List.append_eq_nil_iff.mp hA.symm
      subst e1; subst e2
      exact RelL.cons r1 (ih [] rfl r2)
section
variable {X : Cx} {W : WX} {L : List Nat} {e a b o : Expr} {pos apos cpos : Pos} {Sa Sb S : Env → Res D} {Pl : Env → Res Plc}
def setL (k : D) (d : D) : D → Option D
  | .lst true ds => match k with
    | .int i => if cleanL ds = true ∧ d.clean = true then (L2.ixN ds.length i).map fun j => .lst true (ds.set j d) else none
    | _ => none
  | _ => none
def sSetL (Pl : Env → Res Plc) (Sk Se : Env → Res D) : Env → SRes := fun ρ => match Se ρ with
  | .ok d => (match Pl ρ with
    | .ok p => (match Sk ρ with
      | .ok k => (match setL k d p.at_ with
        | some d' => .nx (p.set d')
        | none => .bad)
      | .exc x => .exc x ρ
      | .bad => .bad)
    | .exc x => .exc x ρ
    | .bad => .bad)
  | .exc x => .exc x ρ
  | .bad => .bad
theorem s_setL {i : Expr} {pos' : Pos} {Sk Se : Env → Res D} (ho : PlOk X W o Pl) (hi : BOk X W i Sk) (he : EOk X W e Se) (hs : swapsWithSole [.Subscript o i pos'] e pos.line X.env = pure false := by rfl)
    (hw : swappedStores [.Subscript o i pos'] e X.env = pure none := by rfl) (h1 : (assignEach [.Subscript o i pos'] X.env).map (·.2) = [assign (.Subscript o i pos') X.env] := by rfl)
    (hg : ∀ v, assign (.Subscript o i pos') X.env v = (do
      let ov ← holding [v] (eval o X.env)
      let iv ← holding [v, ov] (eval i X.env)
      standAt pos'
      holding [v, ov, iv] (setItem ov iv v)
      release [v, ov, iv] []) := by intro _; rfl) :
    SOk X W L (.Assign [.Subscript o i pos'] e pos) (sSetL Pl Sk Se) := ⟨PS.imp (ps_asg he.pe (pg_sub ho.pe hi.pe set_list hg) hs hw h1) fun D σ H ⟨P, ρ, A, st, h⟩ => ⟨P, ρ, A, st, by
  unfold sSetL at h
  cases hse : Se ρ with
  | bad => simp only [hse] at h
  | exc x => simp only [hse] at h; exact PostX.stmt st h
  | ok d =>
    simp only [hse] at h
    intro v P1 H1 B e1 r fr
    refine ⟨P1, ρ, A, st.ext e1, ?_⟩
    cases hp : Pl ρ with
    | bad => simp only [hp] at h
    | exc x => simp only [hp] at h; exact PostX.ext (PostX.stmt st h) st.und e1
    | ok p =>
      simp only [hp] at h
      intro u P3 H3 e3 F
      have e13 := e1.trans st.und e3
      refine ⟨P3, ρ, A, st.ext e13, ?_⟩
      cases hk : Sk ρ with
      | bad => simp only [hk] at h
      | exc x => simp only [hk] at h; exact PostX.ext (PostX.stmt st h) st.und e13
      | ok dk =>
        simp only [hk] at h
        intro y P4 H4 Bk e4 rk ok
        have e14 := e13.trans st.und e4
        have F4 := F.ext (st.ext e13) e4
        cases hz : setL dk d p.at_ with
        | none => simp only [hz] at h
        | some d' =>
          simp only [hz] at h
          obtain ⟨B5, R, rp, q, w⟩ := F4
          unfold setL at hz
          split at hz
          · rename_i ds hd
            split at hz
            · rename_i i0
              split at hz
              · rename_i hc
                obtain ⟨j, hj, rfl⟩ := Option.map_eq_some_iff.mp hz
                rw [hd] at rp
                cases rk
                cases rp with
                | @lstO a vs ds A0 hH rl =>
                  obtain rfl := RelL.clean rl hc.1
                  obtain rfl := r.clean hc.2
                  have st4 := st.ext e14
                  have r4 := (r.ext e3 fun b hb => by simp at hb).ext e4 fun b hb => by simp at hb
                  have rl4 := RelL.set r4 j rl
                  have hl := rl.length
                  obtain ⟨n1, n2, n3⟩ := List.nodup_append.mp (q.nodup_iff.mp st.nd)
                  have rr : Rel (gd X) P4 (upd H4 a (.lst (vs.set j v))) (.ref a) (.lst true (ds.set j d)) [a] := .lstO upd_same (rl4.mono (Same.refl _) fun b hb => by simp at hb)
                  obtain ⟨A', af⟩ := Foc.done (L := L) (p := p) (B0 := []) (B' := []) st e14 q w rr (by simpa using n2) (by simp) (fun b hb => by simp at hb)
                  exact ⟨a, vs, i0, j, rfl, rfl, hH, by rw [hl]; exact hj, h σ P4 _ A' af⟩
              · cases hz
            · cases hz
          · cases hz⟩⟩
def opGtT : D → D → Option D
  | .str x, .str y => some (.bl (decide (y.cps.toList < x.cps.toList)))
  | _, _ => none
theorem o_gtT : OpR X (compareOp .Gt) (rD (gd X) opGtT) := by
  intro pins s σ H x y v u Q I rx ry ⟨P, dx, dy, Bx, By, un, r1, r2, o1, o2, h⟩
  cases r1 <;> first | exact h.elim | skip
  cases r2 <;> first | exact h.elim | skip
  exact op_gt_str pins s σ H _ _ _ _ Q I rx ry ⟨_, _, rfl, rfl, post_val un h (.bl _)⟩
theorem cmpOf_gtT {prog : Program} {w : World} {A : Around} (x y : Str) (t u : Tok) :
    CmpOf prog w A .Gt (fun i v => (#[Value.str x t, Value.str y u] : Array Value)[i]? = some v) (fun i j => if i = 1 ∧ j = 0 then decide (x.cps.toList < y.cps.toList) else if i = 0 ∧ j = 1 then decide (y.cps.toList < x.cps.toList) else if i = 0 then decide (x.cps.toList < x.cps.toList) else decide (y.cps.toList < y.cps.toList)) := fun i j vi vj s Q E hi hj h => by
  have g : ∀ (x y : Str) (t u : Tok), Q (.bool (decide (y.cps.toList < x.cps.toList))) s → wpAny (model prog w) A (richCompare .Gt (.str x t) (.str y u)) Q E s := fun x y t u h =>
    richCompare_gives (op := .Gt) (typeIs_str s x t) (typeIs_str s y u) F.slot_str_gt F.entry_str_gt (F.args_str_gt_2 _ _) (PySem.gives_str_gt x y t u) (fun e => nomatch e) h
  match i, j, hi, hj with
  | 0, 0, hi, hj => cases hi; cases hj; exact g _ _ _ _ (by simpa using h)
  | 0, 1, hi, hj => cases hi; cases hj; exact g _ _ _ _ (by simpa using h)
  | 1, 0, hi, hj => cases hi; cases hj; exact g _ _ _ _ (by simpa using h)
  | 1, 1, hi, hj => cases hi; cases hj; exact g _ _ _ _ (by simpa using h)
  | i + 2, _, hi, _ => simp at hi
  | 0, j + 2, _, hj => simp at hj
  | 1, j + 2, _, hj => simp at hj
theorem maxL2_str {prog : Program} {w : World} {A : Around} {E : Value → Shared → Prop} {s : Shared} {l : Addr} {Q : Value → Shared → Prop} {x y : Str} {t u : Tok} (hh : A.handled = none) (hl : s.heap.IsList l #[.str x t, .str y u])
    (h : ∀ h' tk t', (∀ d o, s.heap.get? d = some o → h'.get? d = some o) → Q (.str (if x.cps.toList < y.cps.toList then y else x) t') { s with heap := h', toks := tk }) :
    wpAny (model prog w) A (call (.builtin "max") [.ref l]) Q E s := by
  refine call_max_walk (iter_anyList hl fun s₂ e st hfp hlI => ?_)
  subst e
  refine ⟨_, _, _, _, _, _, _, rfl, Walks.list (A := A.in1) hh _ l hlI _, st, hfp, by simp, cmpOf_gtT x y t u, fun v h' tk hP hk => ?_⟩
  have := h h' tk (if x.cps.toList < y.cps.toList then u else t) (PySem.old_kept hk)
  have hv : Value.str (if x.cps.toList < y.cps.toList then y else x) (if x.cps.toList < y.cps.toList then u else t) = v := by
    by_cases h1 : x.cps.toList < y.cps.toList
    · simp [argBest, h1] at hP; simp [h1]; exact hP
    · simp [argBest, h1] at hP; simp [h1]; exact hP
  rw [hv] at this
  exact this
def fMaxT : D → Option D
  | .lst _ [.str x, .str y] => some (.str (if x.cps.toList < y.cps.toList then y else x))
  | _ => none
theorem call_maxT (hc : X.calm = true) : CallR X (.builtin "max") (fun vs H Q => ∃ (p : Addr) (x y : Str), vs = [.ref p] ∧ SqL X.K H p [.str x, .str y] ∧ Q (.str (if x.cps.toList < y.cps.toList then y else x)) H) := by
  intro pins s σ H vs us Q I r h
  obtain ⟨p, x, y, rfl, hs, q⟩ := h
  obtain ⟨its, rv, hl, _⟩ := I.list hs
  rw [Vals.ref1 r]
  obtain ⟨u1, u2, rfl, ⟨t1, rfl⟩, ⟨t2, rfl⟩⟩ := rv.two
  exact maxL2_str (I.ok.hd hc) hl.isList fun h' tk t' k => ⟨.str _, H, I.kept k, ⟨t', rfl⟩, q⟩
theorem c_maxT (hc : X.calm = true) : CallR X (.builtin "max") (rC (gd X) (on1 fMaxT)) := CallR.imp (call_maxT hc) fun xs H Q h => by
  obtain ⟨v, P, d, B, z, rfl, un, r, o, hf, q⟩ := rC1 h
  unfold fMaxT at hf
  split at hf
  · rename_i ow x y
    cases hf
    have two : ∀ {vs : List V} {A : List Addr}, RelL (gd X) P H vs [.str x, .str y] A → vs = [.str x, .str y] := fun rl => by
      cases rl with
      | cons r1 r2 => cases r2 with
        | cons r2 r3 => cases r3; cases r1; cases r2; rfl
    cases r with
    | lstF q1 r => rw [two r] at q1; exact ⟨_, _, _, rfl, un.seqL (SqL.of q1), post_val un q (.str _)⟩
    | lstO q1 r => rw [two r] at q1; exact ⟨_, _, _, rfl, SqL.of q1, post_val un q (.str _)⟩
  · cases hf
end
section
variable {ρ : Env}
theorem sSetL_ap {Pl : Env → Res Plc} {Sk Se : Env → Res D} {d : D} {p : Plc} {k d' : D} (h1 : Se ρ = .ok d) (h2 : Pl ρ = .ok p) (h3 : Sk ρ = .ok k) (h4 : setL k d p.at_ = some d') : sSetL Pl Sk Se ρ = .nx (p.set d') := by
  simp [sSetL, h1, h2, h3, h4]
end
end RL
namespace RL
open PySem PySem.Spec PyProof.Rows L2
structure GTup (K : PySem.W.Frag) (mg : Str → Option Value) (x : Str) (ds : List D) : Prop where
  ex : ∃ a vs, mg x = some (.ref a) ∧ (∀ H : Hp, SqT K H a vs) ∧ ds.mapM D.flat? = some vs
theorem flat_back {G : Gd} {P H : Hp} {d : D} {v : V} (h : d.flat? = some v) : Rel G P H v d [] := by
  cases d <;> simp only [D.flat?, Option.some.injEq, reduceCtorEq] at h <;> subst h
  · exact .non
  · exact .bl _
  · exact .int _
  · exact .str _
theorem flats_back {G : Gd} {P H : Hp} : ∀ {ds : List D} {vs : List V}, ds.mapM D.flat? = some vs → RelL G P H vs ds []
  | [], vs, h => by
    have h' : vs = [] := by simpa using h.symm
    subst h'
    exact .nil
  | d :: ds, vs, h => by
    rw [List.mapM_cons] at h
    cases hd : d.flat? with
    | none => rw [hd] at h; cases h
    | some u =>
      rw [hd] at h
      cases ht : ds.mapM D.flat? with
      | none => rw [ht] at h; cases h
      | some us =>
        rw [ht] at h
        obtain rfl : u :: us = vs := Option.some.inj h
        exact .cons (A := []) (B := []) (flat_back hd) (flats_back ht)
structure GDct (K : PySem.W.Frag) (w : World) (mg : Str → Option Value) (x : Str) (tab : List (Str × D)) : Prop where
  ex : ∃ a es n, mg x = some (.ref a) ∧ KDict K w a es n ∧ (∀ z d, tab.lookup z = some d → ∃ u v, PySem.W.nsIn K a z = some (some u) ∧ RelV v u ∧ ∀ (G : Gd) (P H : Hp), G.K = K → Rel G P H v d []) ∧ ∀ z, tab.lookup z = none → PySem.W.nsIn K a z = some none
section
variable {X : Cx} {W : WX} {x : Str} {p pos apos cpos : Pos} {ds : List D} {tab : List (Str × D)} {b e f : Expr} {Sb Sf : Env → Res D}
theorem e_globT (h : GTup X.K X.mg x ds) (hg : Gl X x := by rfl) (hd : (x == ("__debug__" : Str)) = false := by decide) : EOk X W (.Name x p) (sC (.tup ds)) := by
  obtain ⟨a, vs, h1, h2, h3⟩ := h.ex
  exact e_val (pe_glob (v := .ref a) hg h1 rfl hd) fun P H => .tup (h2 P) (flats_back h3)
def fKd (tab : List (Str × D)) : D → Option D
  | .str z => tab.lookup z
  | _ => none
theorem e_kdIx (h : GDct X.K X.w X.mg x tab) (hb : BOk X W b Sb) (hs : NoSl b := by exact fun _ _ => rfl) (hg : Gl X x := by rfl) (hd : (x == ("__debug__" : Str)) = false := by decide) : EOk X W (.Subscript (.Name x p) b pos) (s1 (fKd tab) Sb) := by
  obtain ⟨a, es, n, h1, h2, h3, h4⟩ := h.ex
  refine ⟨⟨fun pins s σ H Q I ⟨P, ρ, A, st, q⟩ => ?_⟩⟩
  refine subD_of PySem.F.slot_dict_getitem.lookup hs (thn ((pe_glob (v := .ref a) hg h1 rfl hd).run pins s σ H (fun x H1 => x = .ref a ∧ H1 = H) I ⟨rfl, rfl⟩) ?_)
  rintro u s1' ⟨x1, H1, I1, rx, rfl, rfl⟩
  obtain rfl : u = Value.ref a := rx
  refine thn (hb.pe.run pins s1' σ _ (fun y H2 => ∃ z, y = .str z ∧ ∃ d, tab.lookup z = some d ∧ ∀ v, (∀ (G : Gd) (P H : Hp), G.K = X.K → Rel G P H v d []) → Q v H2) I1 ⟨P, ρ, A, st, ?_⟩) ?_
  · unfold s1 at q
    cases hS : Sb ρ with
    | bad => rw [hS] at q; exact q.elim
    | exc x => rw [hS] at q; exact q
    | ok d =>
      rw [hS] at q
      intro v P1 H1 B1 e1 r1 o1
      cases d with
      | str z =>
        cases r1
        simp only [Res.bind, fKd] at q
        cases hl : tab.lookup z with
        | none => rw [hl] at q; exact q.elim
        | some d' =>
          rw [hl] at q
          exact ⟨z, rfl, d', hl, fun v hv => q v P1 H1 [] e1 (hv (gd X) P1 H1 rfl) Fresh.nil⟩
      | _ => exact q.elim
  · rintro u2 s2 ⟨y, H2, I2, ry, z, rfl, d, hl, hq⟩
    obtain ⟨u0, v0, g1, g2, g3⟩ := h3 z d hl
    exact ⟨kd_type h2 I2, op_item_kd h2 pins s2 σ H2 (.ref a) (.str z) _ _ Q I2 rfl ry ⟨z, u0, v0, rfl, rfl, g1, g2, hq v0 g3⟩⟩
end
def dvD : He.Dv → D
  | .non => .non
  | .bl b => .bl b
  | .int i => .int i
  | .str x => .str x
  | _ => .scr []
def dvFlat : He.Dv → Bool
  | .non => true
  | .bl _ => true
  | .int _ => true
  | .str _ => true
  | _ => false
theorem dv_flat {K : PySem.W.Frag} : ∀ {ds : List He.Dv}, ds.all dvFlat = true → (ds.map dvD).mapM D.flat? = some (ds.map (He.Dv.v K))
  | [], _ => rfl
  | d :: ds, h => by
    rw [List.all_cons, Bool.and_eq_true] at h
    rw [List.map_cons, List.mapM_cons, dv_flat h.2]
    cases d <;> first | rfl | cases h.1
def fTupC (x : Str) (ds : List He.Dv) : FaB := fun K => (He.Fa.glo x).ok K && He.tupB K x ds
theorem gtup_ok {K : PySem.W.Frag} {h : Heap} {mg : Str → Option Value} (X : K.In h) (G : h.Ns mainGlobals mg) {x : Str} {ds : List He.Dv} (c : fTupC x ds K = true) (f : ds.all dvFlat = true := by rfl) : GTup K mg x (ds.map dvD) := by
  obtain ⟨c1, c2⟩ := He.ba c
  exact ⟨_, _, He.glo_ok X G c1, fun H => He.tupB_ok c2 H, dv_flat f⟩
inductive Kv where
  | one (d : He.Dv)
  | tup (ds : List He.Dv)
def Kv.d : Kv → D
  | .one d => dvD d
  | .tup ds => .tup (ds.map dvD)
def Kv.flat : Kv → Bool
  | .one d => dvFlat d
  | .tup ds => ds.all dvFlat
def kvB (K : PySem.W.Frag) (u : Value) : Kv → Bool
  | .one d => He.relB (d.v K) u
  | .tup ds => match u with
    | .ref t => (match K.lookup t with
      | some ⟨.type c, _, .seq its _, _⟩ => decide (c = "tuple") && (decide (its.size ≤ sizeLine) && He.relAll (ds.map (He.Dv.v K)) its.toList)
      | _ => false)
    | _ => false
theorem kvB_ok {K : PySem.W.Frag} {u : Value} {k : Kv} (f : k.flat = true) (h : kvB K u k = true) : ∃ v, RelV v u ∧ ∀ (G : Gd) (P H : Hp), G.K = K → Rel G P H v k.d [] := by
  cases k with
  | one d =>
    refine ⟨d.v K, He.relB_ok h, fun G P H e => flat_back ?_⟩
    cases d <;> first | rfl | cases f
  | tup ds =>
    unfold kvB at h
    simp only at h
    cases u with
    | ref t =>
      simp only at h
      cases q : K.lookup t with
      | none => rw [q] at h; cases h
      | some o =>
        obtain ⟨oc, od, dt, osl⟩ := o
        rw [q] at h
        cases oc with
        | type c =>
          cases dt with
          | seq its n =>
            obtain ⟨h1, h2⟩ := He.ba (show (decide (c = "tuple") && (decide (its.size ≤ sizeLine) && He.relAll (ds.map (He.Dv.v K)) its.toList)) = true from h)
            obtain ⟨h3, h4⟩ := He.ba h2
            refine ⟨.ref t, rfl, fun G P H e => ?_⟩
            subst e
            exact .tup (.inr ⟨_, its, n, q, congrArg Value.type (of_decide_eq_true h1), rfl, of_decide_eq_true h3, He.relAll_ok h4⟩) (flats_back (dv_flat f))
          | _ => cases h
        | _ => cases dt <;> cases h
    | _ => cases h
def fDctC (x : Str) (kvs : List (Str × Kv)) : FaB := fun K => (He.Fa.glo x).ok K && kvs.all fun p => match PySem.W.nsIn K (He.ga K x) p.1 with
  | some (some u) => kvB K u p.2
  | _ => false
abbrev tabOfK (kvs : List (Str × Kv)) : List (Str × D) := kvs.map fun p => (p.1, p.2.d)
theorem lookup_mem {kvs : List (Str × Kv)} {z : Str} {d : D} (h : (tabOfK kvs).lookup z = some d) : ∃ k, (z, k) ∈ kvs ∧ k.d = d := by
  induction kvs with
  | nil => cases h
  | cons p kvs ih =>
    simp only [tabOfK, List.map_cons, List.lookup_cons] at h
    split at h
    · rename_i e
      refine ⟨p.2, ?_, by simpa using h⟩
      have : z = p.1 := eq_of_beq e
      rw [this]
      exact List.mem_cons_self
    · obtain ⟨k, h1, h2⟩ := ih h
      exact ⟨k, List.mem_cons_of_mem _ h1, h2⟩
theorem lookup_out {kvs : List (Str × Kv)} {z : Str} (h : (tabOfK kvs).lookup z = none) : z ∉ kvs.map (·.1) := by
  induction kvs with
  | nil => simp
  | cons p kvs ih =>
    simp only [tabOfK, List.map_cons, List.lookup_cons] at h
    split at h
    · cases h
    · rename_i e
      simp only [List.map_cons, List.mem_cons, not_or]
      exact ⟨fun q => by rw [q] at e; simp at e, ih h⟩
theorem ns_out {K : PySem.W.Frag} {P : Params} {a : Addr} {ks : List Str} {z : Str} (h : He.dicW K a = some (He.keysIn P ks)) (hz : z ∉ ks) : PySem.W.nsIn K a z = some none := by
  unfold He.dicW at h
  unfold PySem.W.nsIn
  cases q : K.lookup a with
  | none => rw [q] at h; cases h
  | some o =>
    obtain ⟨oc, od, dt, osl⟩ := o
    rw [q] at h
    cases dt with
    | dict es n =>
      simp only
      have he : es.toList.map He.keyOf = He.keysIn P ks := by
        cases oc <;> try (cases h)
        cases od <;> try (cases h)
        simp only at h
        split at h
        · exact Option.some.inj h
        · cases h
      clear h q
      have main : ∀ (l : List DictEntry) (ks : List Str), l.map He.keyOf = He.keysIn P ks → z ∉ ks → l.find? (·.key.isStr z) = none ∧ l.any (·.refKey) = false := by
        intro l
        induction l with
        | nil => intro ks _ _; exact ⟨rfl, rfl⟩
        | cons e l ih =>
          intro ks h hz
          cases ks with
          | nil => cases h
          | cons k ks =>
            have h1 : He.keyOf e :: l.map He.keyOf = some (k, PyData.keyHash P k) :: He.keysIn P ks := h
            injection h1 with h2 h3
            simp only [List.mem_cons, not_or] at hz
            obtain ⟨i1, i2⟩ := ih ks h3 hz.2
            unfold He.keyOf at h2
            split at h2
            · rename_i x t qk
              have h5 := (Prod.mk.inj (Option.some.inj h2)).1
              subst h5
              have ne : e.key.isStr z = false := by
                rw [qk]
                show decide (x = z) = false
                exact decide_eq_false fun h => hz.1 h.symm
              refine ⟨by rw [List.find?_cons, ne]; exact i1, ?_⟩
              rw [List.any_cons, i2, Bool.or_false]
              unfold DictEntry.refKey
              rw [qk]
            · cases h2
      obtain ⟨m1, m2⟩ := main es.toList ks he hz
      rw [m1]
      simp only [m2]
      rfl
    | _ => cases oc <;> cases od <;> cases h
theorem gdct_ok {K : PySem.W.Frag} {h : Heap} {w : World} {mg : Str → Option Value} (X : K.In h) (G : h.Ns mainGlobals mg) {x : Str} {kvs : List (Str × Kv)} (c : fDctC x kvs K = true) (t : He.dicW K (He.ga K x) = some (He.keysIn w.params (kvs.map (·.1)))) (f : kvs.all (fun p => p.2.flat) = true := by rfl) : GDct K w mg x (tabOfK kvs) := by
  obtain ⟨c1, c2⟩ := He.ba c
  obtain ⟨es, n, kd⟩ := He.dicW_ok t
  refine ⟨_, es, n, He.glo_ok X G c1, kd, fun z d hz => ?_, fun z hz => ns_out t (lookup_out hz)⟩
  obtain ⟨k, hk, rfl⟩ := lookup_mem hz
  have c3 := List.all_eq_true.mp c2 _ hk
  have f3 := List.all_eq_true.mp f _ hk
  simp only at c3 f3
  cases e : PySem.W.nsIn K (He.ga K x) z with
  | none => rw [e] at c3; cases c3
  | some r =>
    rw [e] at c3
    cases r with
    | none => cases c3
    | some u =>
      obtain ⟨v, v1, v2⟩ := kvB_ok f3 c3
      exact ⟨u, v, rfl, v1, v2⟩
end RL
namespace RL
open PySem PySem.Spec PyProof.Rows L2
abbrev AlLT : Type := He.AlD × List (Option (List (Option (Str × Int))))
def obsLT (as : List Addr) (fa : List FaB) (fn : List He.DefD) (ts : List (Str × List Str)) (g : Addr → Option Obj) : AlLT := (obsL as fa fn g, ts.map fun t => He.dicW (He.frG g as) (He.ga (He.frG g as) t.1))
def valLT (fn : List He.DefD) (ts : List (Str × List Str)) (w : World) : AlLT := (He.valD fn, ts.map fun t => some (He.keysIn w.params t.2))
def SaysLT (fa : List FaB) (fn : List He.DefD) (ts : List (Str × List Str)) (w : World) (K : PySem.W.Frag) : Prop := SaysR fa fn K ∧ (ts.map fun t => He.dicW K (He.ga K t.1)) = ts.map fun t => some (He.keysIn w.params t.2)
def hookLT (as : (Addr → Option Obj) → List Addr) (fa : List FaB) (fn : List He.DefD) (ts : List (Str × List Str)) : PySem.W.Hook where
  α := AlLT
  obs := fun s => obsLT (as s.heap.get?) fa fn ts s.heap.get?
  val := fun w => valLT fn ts w
  says := fun w h => ∃ K : PySem.W.Frag, K.In h ∧ SaysLT fa fn ts w K ∧ CtabOk K h
  of := fun w s e => by
    have e0 : obsL (as s.heap.get?) fa fn s.heap.get? = He.valD fn := congrArg (fun z : AlLT => z.1) e
    have et : (ts.map fun t => He.dicW (He.frG s.heap.get? (as s.heap.get?)) (He.ga (He.frG s.heap.get? (as s.heap.get?)) t.1)) = ts.map fun t => some (He.keysIn w.params t.2) := congrArg (fun z : AlLT => z.2) e
    have e1 : (tabL (as s.heap.get?) s.heap.get? && (obsR fa fn (He.frG s.heap.get? (as s.heap.get?))).1) = true := congrArg (fun z : He.AlD => z.1) e0
    have e2 : (obsR fa fn (He.frG s.heap.get? (as s.heap.get?))).2 = fn.map He.DefD.val := congrArg (fun z : He.AlD => z.2) e0
    obtain ⟨b1, b2⟩ := Bool.and_eq_true_iff.mp e1
    exact ⟨_, He.frG_in, ⟨Prod.ext b2 e2, et⟩, ctab_L (fun _ => rfl) b1⟩
  keeps := fun _ _ _ ⟨K, hK, c, t⟩ k => ⟨K, PySem.W.Frag.In.keeps hK k, c, t.keeps k⟩
theorem obsLT_eq {as : (Addr → Option Obj) → List Addr} {fa : List FaB} {fn : List He.DefD} {ts : List (Str × List Str)} {g : Addr → Option Obj} {s : Shared} (h : ∀ a, g a = s.heap.get? a) : obsLT (as g) fa fn ts g = (hookLT as fa fn ts).obs s := by
  have e : g = s.heap.get? := funext h
  rw [e] <;> rfl
theorem SaysLT.tab {fa : List FaB} {fn : List He.DefD} {ts : List (Str × List Str)} {w : World} {K : PySem.W.Frag} (c : SaysLT fa fn ts w K) (i : Nat) {t : Str × List Str} (h : ts[i]? = some t := by rfl) : He.dicW K (He.ga K t.1) = some (He.keysIn w.params t.2) := by
  have e2 : (ts.map fun t => He.dicW K (He.ga K t.1))[i]? = (ts.map fun t => some (He.keysIn w.params t.2))[i]? := by rw [c.2]
  rw [List.getElem?_map, List.getElem?_map, h] at e2
  exact Option.some.inj e2
end RL
namespace Lk21
open PySem PySem.Spec PyProof.Rows L2 RL
def topS (i : Nat) : Stmt := PySem.Challenge.pw_regattaroll_k21_papers_written_and_read.main.body.getD i (.Pass ⟨0, 0, 0, 0⟩)
abbrev cs_bearing : List Str := ["LevelHandicap", "FactorHandicap", "YardHandicap", "MileHandicap"]
abbrev cs_crews : List Str := ["Meeting"]
abbrev cs_kinds : List Str := ["Meeting"]
abbrev cs_limits : List Str := ["Meeting"]
abbrev cs_runs : List Str := ["Meeting"]
abbrev ist_BadPair : List (Str × Bool) := [("BadTime", false), ("BadPaper", false), ("NoName", false)]
abbrev ist_BadPaper : List (Str × Bool) := [("BadTime", false), ("BadPaper", true), ("NoName", false)]
abbrev ist_BadText : List (Str × Bool) := [("BadTime", false), ("BadPaper", false), ("NoName", false)]
abbrev ist_BadTime : List (Str × Bool) := [("BadTime", true), ("BadPaper", false), ("NoName", false)]
abbrev ist_NoName : List (Str × Bool) := [("BadTime", false), ("BadPaper", false), ("NoName", true)]
abbrev ist_NoNumber : List (Str × Bool) := [("BadTime", false), ("BadPaper", false), ("NoName", false)]
abbrev ist_ValueError : List (Str × Bool) := [("BadTime", true), ("BadPaper", true), ("NoName", true)]
abbrev kd_TOLD : List (Str × D) := [("code", .tup [.str "away", .str "unstarted", .str "early", .str "unfinished", .str "retired", .str "out", .str "barred"]), ("help", .tup [.str "every", .str "ahead"])]
abbrev sub_BadTime : List (Str × Bool) := [("BadTime", true), ("BadPaper", false), ("NoName", false)]
abbrev sub_RaceError : List (Str × Bool) := [("BadTime", true), ("BadPaper", true), ("NoName", true)]
abbrev s_is_whole : Stmt := topS 14
abbrev s_are_figures : Stmt := topS 18
abbrev s_Handicap___init__ : Stmt := (clsB (topS 21)).getD 0 (.Pass ⟨0, 0, 0, 0⟩)
abbrev s_is_in : Stmt := topS 29
abbrev s_Meeting_fleets : Stmt := (clsB (topS 30)).getD 3 (.Pass ⟨0, 0, 0, 0⟩)
abbrev s_Meeting_races : Stmt := (clsB (topS 30)).getD 4 (.Pass ⟨0, 0, 0, 0⟩)
abbrev s__law_cell_at : Stmt := topS 53
abbrev s__law_mixed : Stmt := topS 54
abbrev s__law_entered : Stmt := topS 58
abbrev s__law_time_text : Stmt := topS 60
abbrev s__law_kinds : Stmt := topS 61
abbrev s__law_whole : Stmt := topS 63
abbrev s__law_bent : Stmt := topS 67
abbrev s_is_time : Stmt := topS 15
abbrev s_time_read : Stmt := topS 19
abbrev s_Meeting_race : Stmt := (clsB (topS 30)).getD 5 (.Pass ⟨0, 0, 0, 0⟩)
abbrev s_Meeting_sails_of : Stmt := (clsB (topS 30)).getD 9 (.Pass ⟨0, 0, 0, 0⟩)
abbrev s_number_in : Stmt := topS 34
abbrev s_is_among : Stmt := topS 46
abbrev s__law_names : Stmt := topS 55
abbrev s__law_handicap : Stmt := topS 56
abbrev s__law_paper : Stmt := topS 59
abbrev s__law_text : Stmt := topS 62
abbrev s__law_seconds : Stmt := topS 64
abbrev s_need_time : Stmt := topS 16
abbrev s_handicap_of : Stmt := topS 26
abbrev s_Meeting_entered : Stmt := (clsB (topS 30)).getD 10 (.Pass ⟨0, 0, 0, 0⟩)
abbrev s_time_in : Stmt := topS 35
abbrev s_is_told : Stmt := topS 47
abbrev s__law_meeting : Stmt := topS 57
abbrev s__law_read : Stmt := topS 65
abbrev s_time_text : Stmt := topS 17
abbrev s_Meeting___init__ : Stmt := (clsB (topS 30)).getD 0 (.Pass ⟨0, 0, 0, 0⟩)
abbrev s_is_paper : Stmt := topS 48
abbrev s_need_paper : Stmt := topS 49
abbrev s_paper_text : Stmt := topS 50
abbrev s_meeting_of : Stmt := topS 31
abbrev s_paper_read : Stmt := topS 51
abbrev s__law_told : Stmt := topS 66
abbrev s_law : Stmt := topS 68
def h_law : He.DefD := ⟨("law", none), "law", "law", defArgs s_law, defBody s_law, defScope s_law, [], []⟩
def h_FactorHandicap___init___ : He.DefD := ⟨("FactorHandicap", some "__init__"), "__init__", "Handicap.__init__", defArgs s_Handicap___init__, defBody s_Handicap___init__, defScope s_Handicap___init__, [], []⟩
def h_YardHandicap___init___ : He.DefD := ⟨("YardHandicap", some "__init__"), "__init__", "Handicap.__init__", defArgs s_Handicap___init__, defBody s_Handicap___init__, defScope s_Handicap___init__, [], []⟩
def h_MileHandicap___init___ : He.DefD := ⟨("MileHandicap", some "__init__"), "__init__", "Handicap.__init__", defArgs s_Handicap___init__, defBody s_Handicap___init__, defScope s_Handicap___init__, [], []⟩
def h_LevelHandicap___init___ : He.DefD := ⟨("LevelHandicap", some "__init__"), "__init__", "Handicap.__init__", defArgs s_Handicap___init__, defBody s_Handicap___init__, defScope s_Handicap___init__, [], []⟩
def h_handicap_of : He.DefD := ⟨("handicap_of", none), "handicap_of", "handicap_of", defArgs s_handicap_of, defBody s_handicap_of, defScope s_handicap_of, [], []⟩
def h_Meeting___init___ : He.DefD := ⟨("Meeting", some "__init__"), "__init__", "Meeting.__init__", defArgs s_Meeting___init__, defBody s_Meeting___init__, defScope s_Meeting___init__, [], []⟩
def h_meeting_of : He.DefD := ⟨("meeting_of", none), "meeting_of", "meeting_of", defArgs s_meeting_of, defBody s_meeting_of, defScope s_meeting_of, [], []⟩
def h_is_whole : He.DefD := ⟨("is_whole", none), "is_whole", "is_whole", defArgs s_is_whole, defBody s_is_whole, defScope s_is_whole, [], []⟩
def h_is_time : He.DefD := ⟨("is_time", none), "is_time", "is_time", defArgs s_is_time, defBody s_is_time, defScope s_is_time, [], []⟩
def h_need_time : He.DefD := ⟨("need_time", none), "need_time", "need_time", defArgs s_need_time, defBody s_need_time, defScope s_need_time, [], []⟩
def h_time_text : He.DefD := ⟨("time_text", none), "time_text", "time_text", defArgs s_time_text, defBody s_time_text, defScope s_time_text, [], []⟩
def h_paper_text : He.DefD := ⟨("paper_text", none), "paper_text", "paper_text", defArgs s_paper_text, defBody s_paper_text, defScope s_paper_text, [], []⟩
def h__law_mixed : He.DefD := ⟨("_law_mixed", none), "_law_mixed", "_law_mixed", defArgs s__law_mixed, defBody s__law_mixed, defScope s__law_mixed, [], []⟩
def h__law_cell_at : He.DefD := ⟨("_law_cell_at", none), "_law_cell_at", "_law_cell_at", defArgs s__law_cell_at, defBody s__law_cell_at, defScope s__law_cell_at, [], []⟩
def h__law_names : He.DefD := ⟨("_law_names", none), "_law_names", "_law_names", defArgs s__law_names, defBody s__law_names, defScope s__law_names, [], []⟩
def h__law_handicap : He.DefD := ⟨("_law_handicap", none), "_law_handicap", "_law_handicap", defArgs s__law_handicap, defBody s__law_handicap, defScope s__law_handicap, [], []⟩
def h__law_meeting : He.DefD := ⟨("_law_meeting", none), "_law_meeting", "_law_meeting", defArgs s__law_meeting, defBody s__law_meeting, defScope s__law_meeting, [], []⟩
def h__law_entered : He.DefD := ⟨("_law_entered", none), "_law_entered", "_law_entered", defArgs s__law_entered, defBody s__law_entered, defScope s__law_entered, [], []⟩
def h__law_paper : He.DefD := ⟨("_law_paper", none), "_law_paper", "_law_paper", defArgs s__law_paper, defBody s__law_paper, defScope s__law_paper, [], []⟩
def h__law_time_text : He.DefD := ⟨("_law_time_text", none), "_law_time_text", "_law_time_text", defArgs s__law_time_text, defBody s__law_time_text, defScope s__law_time_text, [], []⟩
def h__law_text : He.DefD := ⟨("_law_text", none), "_law_text", "_law_text", defArgs s__law_text, defBody s__law_text, defScope s__law_text, [], []⟩
def h__law_whole : He.DefD := ⟨("_law_whole", none), "_law_whole", "_law_whole", defArgs s__law_whole, defBody s__law_whole, defScope s__law_whole, [], []⟩
def h__law_seconds : He.DefD := ⟨("_law_seconds", none), "_law_seconds", "_law_seconds", defArgs s__law_seconds, defBody s__law_seconds, defScope s__law_seconds, [], []⟩
def h__law_read : He.DefD := ⟨("_law_read", none), "_law_read", "_law_read", defArgs s__law_read, defBody s__law_read, defScope s__law_read, [], []⟩
def h_are_figures : He.DefD := ⟨("are_figures", none), "are_figures", "are_figures", defArgs s_are_figures, defBody s_are_figures, defScope s_are_figures, [], []⟩
def h_number_in : He.DefD := ⟨("number_in", none), "number_in", "number_in", defArgs s_number_in, defBody s_number_in, defScope s_number_in, [], []⟩
def h_time_read : He.DefD := ⟨("time_read", none), "time_read", "time_read", defArgs s_time_read, defBody s_time_read, defScope s_time_read, [], []⟩
def h_time_in : He.DefD := ⟨("time_in", none), "time_in", "time_in", defArgs s_time_in, defBody s_time_in, defScope s_time_in, [], []⟩
def h_is_in : He.DefD := ⟨("is_in", none), "is_in", "is_in", defArgs s_is_in, defBody s_is_in, defScope s_is_in, [], []⟩
def h_is_among : He.DefD := ⟨("is_among", none), "is_among", "is_among", defArgs s_is_among, defBody s_is_among, defScope s_is_among, [], []⟩
def h_Meeting_race_ : He.DefD := ⟨("Meeting", some "race"), "race", "Meeting.race", defArgs s_Meeting_race, defBody s_Meeting_race, defScope s_Meeting_race, [], []⟩
def h_is_told : He.DefD := ⟨("is_told", none), "is_told", "is_told", defArgs s_is_told, defBody s_is_told, defScope s_is_told, [], []⟩
def h_Meeting_races_ : He.DefD := ⟨("Meeting", some "races"), "races", "Meeting.races", defArgs s_Meeting_races, defBody s_Meeting_races, defScope s_Meeting_races, [], []⟩
def h_Meeting_fleets_ : He.DefD := ⟨("Meeting", some "fleets"), "fleets", "Meeting.fleets", defArgs s_Meeting_fleets, defBody s_Meeting_fleets, defScope s_Meeting_fleets, [], []⟩
def h_Meeting_sails_of_ : He.DefD := ⟨("Meeting", some "sails_of"), "sails_of", "Meeting.sails_of", defArgs s_Meeting_sails_of, defBody s_Meeting_sails_of, defScope s_Meeting_sails_of, [], []⟩
def h_Meeting_entered_ : He.DefD := ⟨("Meeting", some "entered"), "entered", "Meeting.entered", defArgs s_Meeting_entered, defBody s_Meeting_entered, defScope s_Meeting_entered, [], []⟩
def h_is_paper : He.DefD := ⟨("is_paper", none), "is_paper", "is_paper", defArgs s_is_paper, defBody s_is_paper, defScope s_is_paper, [], []⟩
def h_need_paper : He.DefD := ⟨("need_paper", none), "need_paper", "need_paper", defArgs s_need_paper, defBody s_need_paper, defScope s_need_paper, [], []⟩
def h_paper_read : He.DefD := ⟨("paper_read", none), "paper_read", "paper_read", defArgs s_paper_read, defBody s_paper_read, defScope s_paper_read, [], []⟩
def h__law_kinds : He.DefD := ⟨("_law_kinds", none), "_law_kinds", "_law_kinds", defArgs s__law_kinds, defBody s__law_kinds, defScope s__law_kinds, [], []⟩
def h__law_told : He.DefD := ⟨("_law_told", none), "_law_told", "_law_told", defArgs s__law_told, defBody s__law_told, defScope s__law_told, [], []⟩
def h__law_bent : He.DefD := ⟨("_law_bent", none), "_law_bent", "_law_bent", defArgs s__law_bent, defBody s__law_bent, defScope s__law_bent, [], []⟩
def fn : List He.DefD := [h_law, h_FactorHandicap___init___, h_YardHandicap___init___, h_MileHandicap___init___, h_LevelHandicap___init___, h_handicap_of, h_Meeting___init___, h_meeting_of, h_is_whole, h_is_time, h_need_time, h_time_text, h_paper_text, h__law_mixed, h__law_cell_at, h__law_names, h__law_handicap, h__law_meeting, h__law_entered, h__law_paper, h__law_time_text, h__law_text, h__law_whole, h__law_seconds, h__law_read, h_are_figures, h_number_in, h_time_read, h_time_in, h_is_in, h_is_among, h_Meeting_race_, h_is_told, h_Meeting_races_, h_Meeting_fleets_, h_Meeting_sails_of_, h_Meeting_entered_, h_is_paper, h_need_paper, h_paper_read, h__law_kinds, h__law_told, h__law_bent]
def fa : List FaB := [fB (.glo "law"), fFld cs_bearing "bearing", fMk "FactorHandicap", fMk "YardHandicap", fMk "MileHandicap", fMk "LevelHandicap", fB (.glo "handicap_of"), fFld cs_kinds "kinds", fFld cs_crews "crews", fFld cs_limits "limits", fFld cs_runs "runs", fB (.free "dict"), fB (.free "tuple"), fMk "Meeting", fB (.glo "meeting_of"), fB (.free "bool"), fB (.free "int"), fB (.free "isinstance"), fB (.glo "is_whole"), fB (.int "LAST" 359999), fB (.glo "is_time"), fXc "BadTime", fB (.glo "need_time"), fB (.int "HOUR" 3600), fB (.int "MINUTE" 60), fB (.free "divmod"), fB (.free "str"), fB (.glo "time_text"), fB (.str "FINISH" "finish"), fB (.glo "paper_text"), fB (.glo "_law_mixed"), fB (.free "len"), fB (.glo "_law_cell_at"), fB (.free "range"), fB (.glo "_law_names"), fB (.glo "_law_handicap"), fB (.free "set"), fB (.free "sorted"), fB (.glo "_law_meeting"), fB (.glo "_law_entered"), fB (.free "max"), fB (.free "min"), fB (.glo "_law_paper"), fB (.glo "_law_time_text"), fB (.glo "_law_text"), fB (.glo "_law_whole"), fB (.glo "_law_seconds"), fB (.glo "_law_read"), fB (.str "FIGURES" "0123456789"), fB (.free "all"), fB (.glo "are_figures"), fB (.int "MOST_FIGURES" 4), fB (.glo "number_in"), fB (.glo "time_read"), fSub "BadTime" sub_BadTime, fB (.glo "time_in"), fB (.glo "is_in"), fB (.glo "is_among"), fXc "NoName", fMth "Meeting" "race", fDctC "TOLD" [("code", Kv.tup [.str "away", .str "unstarted", .str "early", .str "unfinished", .str "retired", .str "out", .str "barred"]), ("help", Kv.tup [.str "every", .str "ahead"])], fB (.str "COST" "cost"), fB (.int "MOST_PLACES" 20), fB (.glo "is_told"), fTupC "OF_BOATS" [.str "finish", .str "code", .str "cost", .str "help"], fB (.free "list"), fMth "Meeting" "races", fMth "Meeting" "fleets", fB (.str "ALL" "all"), fMth "Meeting" "sails_of", fMth "Meeting" "entered", fB (.int "MOST_NUMBER" 9999), fB (.str "OFF" "off"), fB (.str "VOID" "void"), fB (.glo "is_paper"), fXc "BadPaper", fB (.glo "need_paper"), fB (.glo "paper_read"), fB (.glo "BadPaper"), fIsE (uGlo "BadPaper") ist_BadPaper, fB (.glo "BadTime"), fIsE (uGlo "BadTime") ist_BadTime, fB (.glo "BadText"), fIsE (uGlo "BadText") ist_BadText, fB (.glo "NoName"), fIsE (uGlo "NoName") ist_NoName, fB (.glo "NoNumber"), fIsE (uGlo "NoNumber") ist_NoNumber, fB (.glo "BadPair"), fIsE (uGlo "BadPair") ist_BadPair, fIsE (uTy "ValueError") ist_ValueError, fB (.free "ValueError"), fB (.glo "_law_kinds"), fSub "RaceError" sub_RaceError, fB (.glo "_law_told"), fB (.glo "_law_bent"), fSys, fB (.free "enumerate"), fB (.free "repr")]
def loose : List PySem.Str := "_wall" :: "RaceError" :: "BadText" :: "BadTime" :: "BadPaper" :: "NoNumber" :: "NoName" :: "BadPair" :: "LAST" :: "HOUR" :: "MINUTE" :: "FIGURES" :: "is_whole" :: "is_time" :: "need_time" :: "time_text" :: "are_figures" :: "time_read" :: "Handicap" :: "LevelHandicap" :: "FactorHandicap" :: "YardHandicap" :: "MileHandicap" :: "handicap_of" :: "ALL" :: "is_in" :: "Meeting" :: "meeting_of" :: "MOST_FIGURES" :: "number_in" :: "time_in" :: "MOST_NUMBER" :: "MOST_PLACES" :: "FINISH" :: "COST" :: "OFF" :: "VOID" :: "CODES" :: "TOLD" :: "OF_BOATS" :: "is_among" :: "is_told" :: "is_paper" :: "need_paper" :: "paper_text" :: "paper_read" :: "_law_cell_at" :: "_law_mixed" :: "_law_names" :: "_law_handicap" :: "_law_meeting" :: "_law_entered" :: "_law_paper" :: "_law_time_text" :: "_law_kinds" :: "_law_text" :: "_law_whole" :: "_law_seconds" :: "_law_read" :: "_law_told" :: "_law_bent" :: []
def ts : List (PySem.Str × List PySem.Str) := [("TOLD", ["code", "help"])]
abbrev R : PySem.W.OpenRow := PySem.W.OpenLaw.row PySem.Challenge.rw_regattaroll_k21_papers_written_and_read
abbrev hk : PySem.W.Hook := hookLT (asR 6) fa fn ts
def ob (s : PySem.W.SharedT) : AlLT := obsLT (asR 6 (HandSHeadRun.getT s)) fa fn ts (HandSHeadRun.getT s)
theorem ob_eq (s : PySem.W.SharedT) : ob s = hk.obs s.abs := obsLT_eq (HandSHeadRun.getT_eq s)
section
open PySem.W PySem.Calls HandSHeadRun
theorem runCf (w : World) (os : OsState) : (endF (stepQ (denQ tabQ) R.prog (w.withFollow "special-get-raises" false)) 30000 R.prog (w.withFollow "special-get-raises" false) os).map ob = some (hk.val (w.withFollow "special-get-raises" false)) := by kernel_rfl
theorem runCt (w : World) (os : OsState) : (endF (stepQ (denQ tabQ) R.prog (w.withFollow "special-get-raises" true)) 30000 R.prog (w.withFollow "special-get-raises" true) os).map ob = some (hk.val (w.withFollow "special-get-raises" true)) := by kernel_rfl
theorem runC (w : World) (os : OsState) : (endF (stepQ (denQ tabQ) R.prog w) 30000 R.prog w os).map ob = some (hk.val w) := byRow2 "special-get-raises" (P := fun w => (endF (stepQ (denQ tabQ) R.prog w) 30000 R.prog w os).map ob = some (hk.val w)) (fun w => runCf w os) (fun w => runCt w os) w
theorem runAf (w : World) (os : OsState) : (endF (stepQ (denQ tabQ) R.prog (w.withFollow "special-get-raises" false)) 30000 R.prog (w.withFollow "special-get-raises" false) os).map (fun s => looksF R.prog (boot_heap (w.withFollow "special-get-raises" false).params) s.abs) = some true := by kernel_rfl
theorem runAt (w : World) (os : OsState) : (endF (stepQ (denQ tabQ) R.prog (w.withFollow "special-get-raises" true)) 30000 R.prog (w.withFollow "special-get-raises" true) os).map (fun s => looksF R.prog (boot_heap (w.withFollow "special-get-raises" true).params) s.abs) = some true := by kernel_rfl
theorem runA (w : World) (os : OsState) : (endF (stepQ (denQ tabQ) R.prog w) 30000 R.prog w os).map (fun s => looksF R.prog (boot_heap w.params) s.abs) = some true := byRow2 "special-get-raises" (P := fun w => (endF (stepQ (denQ tabQ) R.prog w) 30000 R.prog w os).map (fun s => looksF R.prog (boot_heap w.params) s.abs) = some true) (fun w => runAf w os) (fun w => runAt w os) w
theorem runBf (w : World) (os : OsState) : (endF (stepQ (denQ tabQ) R.prog (w.withFollow "special-get-raises" false)) 30000 R.prog (w.withFollow "special-get-raises" false) os).map (fun s => seenQ (PySem.W.view R.prog [68]) loose (importedModules R.prog.main.body) (fun s => xlAt (PySem.W.view R.prog [68]) [] s && recOk R.toRowW.records s) s.abs) = some (openGood (PySem.W.view R.prog [68]) loose) := by kernel_rfl
theorem runBt (w : World) (os : OsState) : (endF (stepQ (denQ tabQ) R.prog (w.withFollow "special-get-raises" true)) 30000 R.prog (w.withFollow "special-get-raises" true) os).map (fun s => seenQ (PySem.W.view R.prog [68]) loose (importedModules R.prog.main.body) (fun s => xlAt (PySem.W.view R.prog [68]) [] s && recOk R.toRowW.records s) s.abs) = some (openGood (PySem.W.view R.prog [68]) loose) := by kernel_rfl
theorem runB (w : World) (os : OsState) : (endF (stepQ (denQ tabQ) R.prog w) 30000 R.prog w os).map (fun s => seenQ (PySem.W.view R.prog [68]) loose (importedModules R.prog.main.body) (fun s => xlAt (PySem.W.view R.prog [68]) [] s && recOk R.toRowW.records s) s.abs) = some (openGood (PySem.W.view R.prog [68]) loose) := byRow2 "special-get-raises" (P := fun w => (endF (stepQ (denQ tabQ) R.prog w) 30000 R.prog w os).map (fun s => seenQ (PySem.W.view R.prog [68]) loose (importedModules R.prog.main.body) (fun s => xlAt (PySem.W.view R.prog [68]) [] s && recOk R.toRowW.records s) s.abs) = some (openGood (PySem.W.view R.prog [68]) loose)) (fun w => runBf w os) (fun w => runBt w os) w
end
theorem run (w : World) : HandSHeadRun.RunEq R (PySem.W.view R.prog [68]) hk ob 30000 loose w := fun os => map3 (runA w os) (runB w os) (runC w os)
end Lk21
namespace RL
open PySem PySem.Spec PyProof.Rows L2
theorem ups0 (n : Nat) : ups 0 n = (List.range n).map fun (k : Nat) => D.int (k : Int) := by simp [ups]
theorem nm_set {t : Nat} {d : D} {ρ : Env} (h : t < ρ.length) : (Tg.nm t).set d ρ = some (ρ.set t (some d)) := by simp [Tg.set, h]
theorem for_of {α : Type} {e : α → D} {t : Tg} {S : Env → SRes} (I : List α → Env → Prop) {xs : List α} {ρ : Env} (h0 : I [] ρ) (step : ∀ p x q ρ, xs = p ++ x :: q → I p ρ → ∃ ρ1 ρ2, t.set (e x) ρ = some ρ1 ∧ S ρ1 = .nx ρ2 ∧ I (p ++ [x]) ρ2) :
    ∃ ρ', forRun t S (xs.map e) ρ = .nx ρ' ∧ I xs ρ' := by
  have main : ∀ (q p : List α) (ρ : Env), xs = p ++ q → I p ρ → ∃ ρ', forRun t S (q.map e) ρ = .nx ρ' ∧ I xs ρ' := by
    intro q
    induction q with
    | nil => intro p ρ h hI; rw [List.append_nil] at h; subst h; exact ⟨ρ, rfl, hI⟩
    | cons x q ih =>
      intro p ρ h hI
      obtain ⟨ρ1, ρ2, h1, h2, h3⟩ := step p x q ρ h hI
      obtain ⟨ρ', q1, q2⟩ := ih (p ++ [x]) ρ2 (by rw [h]; simp) h3
      exact ⟨ρ', by rw [List.map_cons, forRun_cons, h1, put_some, andThen_nx, h2, loopK_nx, q1], q2⟩
  exact main xs [] ρ rfl h0
theorem for_nm {α : Type} {e : α → D} {t : Nat} {S : Env → SRes} (I : List α → Env → Prop) {xs : List α} {ρ : Env} (h0 : I [] ρ) (hl : ∀ p ρ, I p ρ → t < ρ.length) (step : ∀ p x q ρ, xs = p ++ x :: q → I p ρ → ∃ ρ2, S (ρ.set t (some (e x))) = .nx ρ2 ∧ I (p ++ [x]) ρ2) :
    ∃ ρ', forRun (.nm t) S (xs.map e) ρ = .nx ρ' ∧ I xs ρ' :=
  for_of I h0 fun p x q ρ h hI => let ⟨ρ2, h2, h3⟩ := step p x q ρ h hI; ⟨_, ρ2, nm_set (hl p ρ hI), h2, h3⟩
theorem for_up {t : Nat} {S : Env → SRes} (I : Nat → Env → Prop) {n : Nat} {ρ : Env} (h0 : I 0 ρ) (hl : ∀ p ρ, I p ρ → t < ρ.length) (step : ∀ i ρ, i < n → I i ρ → ∃ ρ2, S (ρ.set t (some (.int (i : Int)))) = .nx ρ2 ∧ I (i + 1) ρ2) :
    ∃ ρ', forRun (.nm t) S (ups 0 n) ρ = .nx ρ' ∧ I n ρ' := by
  rw [ups0]
  obtain ⟨ρ', h1, h2⟩ := for_nm (e := fun k : Nat => D.int (k : Int)) (t := t) (S := S) (fun p ρ => I p.length ρ) (xs := List.range n) h0 (fun p ρ h => hl _ ρ h) (by
    intro p x q ρ h hI
    have hx : x = p.length := by
      have h1 : (List.range n)[p.length]? = some x := by rw [h]; simp
      rw [List.getElem?_range (by
        have := congrArg List.length h
        simp at this
        omega)] at h1
      exact (Option.some.inj h1).symm
    have hn : p.length < n := by
      have := congrArg List.length h
      simp at this
      omega
    subst hx
    obtain ⟨ρ2, h2, h3⟩ := step p.length ρ hn hI
    exact ⟨ρ2, h2, by rw [List.length_append]; exact h3⟩)
  rw [List.length_range] at h2
  exact ⟨ρ', h1, h2⟩
theorem lc_map {α : Type} {e g : α → D} {Si : Env → Res (List D)} {t : Tg} {vs : List Nat} {T : Env → Res Bool} {E : Env → Res D} {ρ : Env} {xs : List α} (hl : xs.length ≤ 10000) (h : Si ρ = .ok (xs.map e)) (hr : ∀ x ∈ xs, lcOne t vs T E ρ (e x) = .ok (some (g x))) :
    sLc Si t vs T E ρ = .ok (.lst true (xs.map g)) := sLc_ok h (by rw [List.length_map]; unfold sizeLine; omega) (lcRun_of hr)
theorem lc_fl {α : Type} {e g : α → D} {p : α → Bool} {Si : Env → Res (List D)} {t : Tg} {vs : List Nat} {T : Env → Res Bool} {E : Env → Res D} {ρ : Env} {xs : List α} (hl : xs.length ≤ 10000) (h : Si ρ = .ok (xs.map e)) (hr : ∀ x ∈ xs, lcOne t vs T E ρ (e x) = .ok (if p x = true then some (g x) else none)) :
    sLc Si t vs T E ρ = .ok (.lst true ((xs.filter p).map g)) := sLc_ok h (by rw [List.length_map]; unfold sizeLine; omega) (lcRun_fl hr)
theorem lc_up {g : Nat → D} {Si : Env → Res (List D)} {t : Tg} {vs : List Nat} {T : Env → Res Bool} {E : Env → Res D} {ρ : Env} {n : Nat} (hl : n ≤ 10000) (h : Si ρ = .ok (ups 0 n)) (hr : ∀ k, k < n → lcOne t vs T E ρ (.int (k : Int)) = .ok (some (g k))) :
    sLc Si t vs T E ρ = .ok (.lst true ((List.range n).map g)) := lc_map (e := fun k : Nat => D.int (k : Int)) (by rw [List.length_range]; exact hl) (by rw [h, ups0]) fun k hk => hr k (List.mem_range.mp hk)
theorem rng1_nat {n : Nat} (h : n ≤ 1000000) : rng1 [.int (n : Int)] = some (ups 0 n) := by
  have : inR (n : Int) = true := by simp [inR]; omega
  simp [rng1, this]
end RL
namespace RL
open PySem PySem.Spec PyProof.Rows L2
section
variable {α : Type} {k : α → Str} {v : α → D} {xs : List α} {o : Bool} {s : Str}
def dT (o : Bool) (k : α → Str) (v : α → D) (xs : List α) : D := .dct o (xs.map fun x => sk (k x)) (xs.map v)
theorem clean_of (h : ∀ x ∈ xs, (v x).clean = true) : cleanL (xs.map v) = true := cleanL_all.mpr fun d hd => by
  obtain ⟨i, hi, rfl⟩ := List.mem_map.mp hd
  exact h i hi
theorem frzL_map : ∀ xs : List α, frzL (xs.map v) = xs.map fun x => (v x).frz
  | [] => by simp [frzL]
  | x :: xs => by simp [frzL, frzL_map xs]
theorem frz_same (h : ∀ x ∈ xs, (v x).frz = v x) : frzL (xs.map v) = xs.map v := by
  rw [frzL_map]
  exact List.map_congr_left h
theorem dT_clean (h : ∀ x ∈ xs, (v x).clean = true) : (dT false k v xs).clean = true := by
  simp [dT, clean_of h]
theorem dT_frz : (dT o k v xs).frz = dT false k (fun x => (v x).frz) xs := by simp [dT, D.frz, frzL_map]
theorem dT_frz_same (h : ∀ x ∈ xs, (v x).frz = v x) : (dT o k v xs).frz = dT false k v xs := by simp [dT, D.frz, frz_same h]
theorem mkD_T : ∀ {xs : List α} {ks : List Key} {ds : List D}, (∀ x ∈ xs, sk (k x) ∉ ks) → (xs.map k).Nodup → mkD (xs.map fun x => .tup [.str (k x), v x]) ks ds = some (.dct true (ks ++ xs.map fun x => sk (k x)) (ds ++ xs.map v))
  | [], ks, ds, _, _ => by simp [mkD]
  | x :: xs, ks, ds, h, nd => by
    obtain ⟨n1, n2⟩ := List.nodup_cons.mp nd
    have e := putKs_new (h x List.mem_cons_self)
    simp only [List.map_cons, mkD, RL.keyOf, Option.bind_some, putKs, putVs, e]
    rw [mkD_T (fun y hy z => ?_) n2]
    · simp
    · rcases List.mem_append.mp z with z | z
      · exact h y (List.mem_cons_of_mem _ hy) z
      · have : k y = k x := by simpa using z
        exact n1 (this ▸ List.mem_map_of_mem hy)
theorem dict_T (nd : (xs.map k).Nodup) : fDict (.lst o (xs.map fun x => .tup [.str (k x), v x])) = some (dT true k v xs) := by
  have := mkD_T (v := v) (ks := []) (ds := []) (fun x _ => by simp) nd
  simpa [fDict, dT] using this
theorem lookD_T : ∀ {xs : List α} {x : α}, x ∈ xs → (xs.map k).Nodup → lookD (xs.map fun x => sk (k x)) (xs.map v) (sk (k x)) = some (v x)
  | [], _, h, _ => by simp at h
  | y :: ys, x, h, nd => by
    obtain ⟨n1, n2⟩ := List.nodup_cons.mp nd
    simp only [List.map_cons, lookD]
    rcases List.mem_cons.mp h with rfl | h
    · simp
    · have : k y ≠ k x := fun e => n1 (e ▸ List.mem_map_of_mem h)
      have : sk (k y) ≠ sk (k x) := fun e => this (Sum.inr.inj e)
      rw [if_neg this]
      exact lookD_T h n2
theorem ix_T {x : α} (h : x ∈ xs) (nd : (xs.map k).Nodup) : opIx (dT o k v xs) (.str (k x)) = some (v x) := lookD_T h nd
theorem ixOf_T : ∀ {xs : List α}, (ixOf (xs.map fun x => sk (k x)) (sk s)).isSome = decide (s ∈ xs.map k)
  | [] => by simp [ixOf]
  | y :: ys => by
    simp only [List.map_cons, ixOf]
    by_cases h : k y = s
    · simp [h]
    · have h2 : sk (k y) ≠ sk s := fun e => h (Sum.inr.inj e)
      have h3 : ¬ s = k y := fun e => h e.symm
      rw [if_neg h2, Option.isSome_map, ixOf_T]
      simp [h3]
theorem in_T : oIn (.str s) (dT o k v xs) = some (.bl (decide (s ∈ xs.map k))) := by
  simp only [oIn, fIn, dT, RL.keyOf, Option.map_some, ixOf_T]
theorem notin_T : oNotIn (.str s) (dT o k v xs) = some (.bl (!decide (s ∈ xs.map k))) := by
  simp only [oNotIn, fIn, dT, RL.keyOf, Option.map_some, ixOf_T]
theorem vals_T (h : ∀ x ∈ xs, (v x).clean = true) : valsD (dT o k v xs) = some (xs.map v) := by simp [valsD, dT, clean_of h]
theorem keysL_T : (xs.map fun x => sk (k x)).map keyD = xs.map fun x => .str (k x) := by
  rw [List.map_map]; rfl
theorem list_T : fListX (dT o k v xs) = some (.lst true (xs.map fun x => .str (k x))) := by
  simp only [fListX, dT, List.length_map, if_true, keysL_T]
end
theorem flats_str : ∀ xs : List Str, (xs.map D.str).mapM D.flat? = some (xs.map V.str)
  | [] => rfl
  | x :: xs => by simp [List.mapM_cons, flats_str xs, D.flat?]
theorem inV_str {x : Str} {xs : List Str} : inV (.str x) (xs.map V.str) = decide (x ∈ xs) := by
  induction xs with
  | nil => rfl
  | cons y ys ih =>
    have e0 : eqV (.str y) (.str x) = decide (y = x) := by
      show (y == x) = _
      by_cases h : y = x
      · simp [h]
      · simp [h]
    have e : inV (.str x) ((y :: ys).map V.str) = (decide (y = x) || inV (.str x) (ys.map V.str)) := by
      show (eqV (.str y) (.str x) || _) = _
      rw [e0]; rfl
    rw [e, ih]
    by_cases h : y = x
    · simp [h]
    · have : ¬ x = y := fun e => h e.symm
      simp [h, this]
theorem in_strs {o : Bool} {x : Str} {xs : List Str} : oIn (.str x) (.lst o (xs.map .str)) = some (.bl (decide (x ∈ xs))) := by
  simp only [oIn, fIn, D.flat?, flats_str, inV_str, Option.map_some]
theorem in_strsT {x : Str} {xs : List Str} : oIn (.str x) (.tup (xs.map .str)) = some (.bl (decide (x ∈ xs))) := by
  simp only [oIn, fIn, D.flat?, flats_str, inV_str, Option.map_some]
theorem in_two {x a b : Str} : oIn (.str x) (.tup [.str a, .str b]) = some (.bl (decide (x = a) || decide (x = b))) := by
  have := in_strsT (x := x) (xs := [a, b])
  simpa using this
def nubA {α : Type} [DecidableEq α] : List α → List α → List α
  | acc, [] => acc
  | acc, x :: xs => nubA (if x ∈ acc then acc else acc ++ [x]) xs
theorem nubA_mem {α : Type} [DecidableEq α] {a : α} : ∀ {xs acc : List α}, a ∈ nubA acc xs ↔ a ∈ acc ∨ a ∈ xs
  | [], acc => by simp [nubA]
  | x :: xs, acc => by
    rw [nubA, nubA_mem]
    by_cases h : x ∈ acc
    · rw [if_pos h]
      constructor
      · rintro (z | z)
        · exact .inl z
        · exact .inr (List.mem_cons_of_mem _ z)
      · rintro (z | z)
        · exact .inl z
        · rcases List.mem_cons.mp z with rfl | z
          · exact .inl h
          · exact .inr z
    · rw [if_neg h]
      simp [or_assoc]
theorem nubA_len {α : Type} [DecidableEq α] : ∀ {xs acc : List α}, (nubA acc xs).length ≤ acc.length + xs.length
  | [], acc => by simp [nubA]
  | x :: xs, acc => by
    rw [nubA]
    refine Nat.le_trans nubA_len ?_
    split <;> simp <;> omega
abbrev nub {α : Type} [DecidableEq α] (xs : List α) : List α := nubA [] xs
theorem ixOf_sk {s : Str} {xs : List Str} : (ixOf (xs.map sk) (sk s)).isSome = decide (s ∈ xs) := by
  have := ixOf_T (k := fun x : Str => x) (s := s) (xs := xs)
  simpa using this
theorem mkD_nub : ∀ {xs acc : List Str}, mkD (xs.map fun x => .tup [.str x, .bl true]) (acc.map sk) (acc.map fun _ => D.bl true) = some (dT true (fun x => x) (fun _ => .bl true) (nubA acc xs))
  | [], acc => rfl
  | x :: xs, acc => by
    have e := ixOf_sk (s := x) (xs := acc)
    simp only [List.map_cons, mkD, RL.keyOf, Option.bind_some, putKs, putVs, nubA]
    cases q : ixOf (acc.map sk) (sk x) with
    | none =>
      have hx : x ∉ acc := by
        rw [q] at e
        simpa using e
      simp only [q, if_neg hx]
      have := mkD_nub (xs := xs) (acc := acc ++ [x])
      simpa using this
    | some j =>
      have hx : x ∈ acc := by
        rw [q] at e
        simpa using e
      simp only [q, if_pos hx]
      have same : (acc.map fun _ => D.bl true).set j (.bl true) = acc.map fun _ => D.bl true := by
        apply List.ext_getElem?
        intro i
        rw [List.getElem?_set]
        split
        · rename_i h
          subst h
          rw [List.getElem?_map, List.length_map]
          split
          · rename_i h2
            rw [List.getElem?_eq_getElem h2]; rfl
          · rename_i h2
            rw [List.getElem?_eq_none (by omega)]; rfl
        · rfl
      rw [same]
      exact mkD_nub
theorem dict_nub {o : Bool} {xs : List Str} : fDict (.lst o (xs.map fun x => .tup [.str x, .bl true])) = some (dT true (fun x => x) (fun _ => .bl true) (nub xs)) := mkD_nub (acc := [])
end RL
namespace RL
open PySem PySem.Spec PyProof.Rows L2
section
variable {X : Cx} {W : WX} {e f o : Expr} {apos cpos : Pos} {Sa Sf So : Env → Res D}
def getD2 (d y z : D) : Option D := match d with
  | .dct _ ks ds => (keyOf y).bind fun k => if cleanL ds = true then some ((lookD ks ds k).getD z) else none
  | _ => none
def sGet2 (So Sk Sf : Env → Res D) : Env → Res D := fun ρ => (So ρ).bind fun x => if isDct x = true then (Sk ρ).bind fun y => (Sf ρ).bind fun z => opt (getD2 x y z) else .bad
end
@[simp] theorem sGet2_ap {So Sk Sf : Env → Res D} {ρ : Env} : sGet2 So Sk Sf ρ = (So ρ).bind fun x => if isDct x = true then (Sk ρ).bind fun y => (Sf ρ).bind fun z => opt (getD2 x y z) else .bad := rfl
section
variable {α : Type} {k : α → Str} {v : α → D} {xs : List α} {o : Bool} {s : Str}
end
end RL
namespace L2
open PySem PySem.Spec PyProof.Rows HT
section
variable {prog : Program} {w : World} {A : Around} {E : Value → Shared → Prop} {s : Shared}
end
section
variable {X : Cx}
end
end L2
namespace RL
open PySem PySem.Spec PyProof.Rows L2
section
variable {X : Cx} {W : WX} {e : Expr} {S : Env → Res D} {pos : Pos}
def opAddA : D → D → Option D
  | .tup xs, .tup ys => if cleanL xs = true ∧ cleanL ys = true ∧ xs.length + ys.length ≤ sizeLine then some (.tup (xs ++ ys)) else none
  | x, y => opAdd x y
theorem o_addA : OpR X (binaryOp .Add) (rD (gd X) opAddA) := by
  intro pins s σ H x y v u Q I rx ry ⟨P, dx, dy, Bx, By, un, r1, r2, o1, o2, h⟩
  by_cases c : ∃ xs ys, dx = .tup xs ∧ dy = .tup ys
  · obtain ⟨xs, ys, rfl, rfl⟩ := c
    simp only [opAddA] at h
    split at h
    · rename_i z hz
      split at hz
      · rename_i cc
        cases hz
        obtain ⟨c1, c2, c3⟩ := cc
        cases r1 with
        | @tup a vs _ A1 qa ra =>
          cases r2 with
          | @tup b ws _ A2 qb rb =>
            have ra' := ra.nil_of c1
            have rb' := rb.nil_of c2
            have la := ra'.length
            have lb := rb'.length
            refine op_catA pins s σ H _ _ _ _ Q I rx ry ⟨a, b, vs, ws, rfl, rfl, un.seqT qa, un.seqT qb, by rw [la, lb]; exact c3, fun e => ?_, fun e1 e2 => ?_, fun e1 e2 p hp => ?_⟩
            · subst e
              cases ra'
              exact post_val un h (.tup qb rb')
            · subst e2
              cases rb'
              rw [List.append_nil] at h
              exact post_val un h (.tup qa ra')
            · exact post_tup un h (ra'.append rb') hp
      · cases hz
    · exact h.elim
  · refine o_add pins s σ H x y v u Q I rx ry ⟨P, dx, dy, Bx, By, un, r1, r2, o1, o2, ?_⟩
    have e : opAddA dx dy = opAdd dx dy := by
      unfold opAddA
      split
      · exact absurd ⟨_, _, rfl, rfl⟩ c
      · rfl
    rw [← e]
    exact h
end
theorem opAddA_t {xs ys : List D} (h : cleanL xs = true) (h' : cleanL ys = true) (hl : xs.length + ys.length ≤ sizeLine) : opAddA (.tup xs) (.tup ys) = some (.tup (xs ++ ys)) := by simp [opAddA, h, h', hl]
end RL
namespace RN
open PySem RL
def t__law_mixed_0 : RL.Env → SRes := (sAsg (.nm 2) true (s2 opMod (s2 opAdd (s2 opAdd (s2 opMul (sVarB 0) (sC (.int 48271))) (s2 opMul (sC (.int 7919)) (sVarB 1))) (sC (.int 11))) (sC (.int 1000003))))
def t__law_mixed_1 : RL.Env → SRes := (sRet (s2 opMod (s2 opMul (s2 opMod (s2 opMul (sVarB 2) (sVarB 2)) (sC (.int 1000003))) (sVarB 2)) (sC (.int 1000003))))
def b__law_mixed : RL.Env → SRes := (sThen t__law_mixed_0
    t__law_mixed_1)
def f__law_mixed : List D → FR := runDef 3 [] b__law_mixed
def t__law_names_0 : RL.Env → SRes := (sAsg (.nm 2) true (sC (.str "abcdefghijklmnopqrstuvwxyz0123456789")))
def l__law_names_1 : RL.Env → Res D := (sLc (sI rng1 (sCons (sC (.int 6)) sNil)) (.nm 10) [10] sYes (sCl (sIx (sVarB 2) (s2 opMod (sCallF 2 f__law_mixed (sCons (sVar 0) (sCons (sVar 10) sNil))) (sC (.int 36))))))
def t__law_names_2 : RL.Env → SRes := (sAsg (.nm 3) true l__law_names_1)
def t__law_names_3 : RL.Env → SRes := (sAsg (.nm 4) true (s2 opMod (sCallF 2 f__law_mixed (sCons (sVar 0) (sCons (sC (.int 8)) sNil))) (sC (.int 6))))
def t__law_names_4 : RL.Env → SRes := (sAsg (.nm 5) true (s2 opAdd (s2 opAdd (sVarB 4) (sC (.int 1))) (s2 opMod (sCallF 2 f__law_mixed (sCons (sVar 0) (sCons (sC (.int 9)) sNil))) (s2 opSub (sC (.int 6)) (sVarB 4)))))
def t__law_names_5 : RL.Env → SRes := (sAsg (.nm 6) true (sIx (sLst (sCons (sC (.int 1)) (sCons (sC (.int 5)) (sCons (sC (.int 7)) (sCons (sC (.int 11)) (sCons (sC (.int 13)) (sCons (sC (.int 17)) sNil))))))) (s2 opMod (sCallF 2 f__law_mixed (sCons (sVar 0) (sCons (sC (.int 10)) sNil))) (sC (.int 6)))))
def t__law_names_6 : RL.Env → SRes := (sAsg (.nm 7) false (sLst sNil))
def t__law_names_7 : RL.Env → SRes := (sAsg (.nm 9) true (sCl (sIx (sVarB 2) (s2 opMod (s2 opAdd (sCallF 2 f__law_mixed (sCons (sVar 0) (sCons (sC (.int 11)) sNil))) (s2 opMul (sVarB 6) (sVarB 8))) (sC (.int 36))))))
def t__law_names_8 : RL.Env → SRes := (sMut mAppend (plVar 7) (sCons (sM1 fJoin (sC (.str "")) (s2 opAdd (s2 opAdd (sSl (sVarB 3) sPn (sPs (sVarB 4))) (sLst (sCons (sVar 9) sNil))) (sSl (sVarB 3) (sPs (s2 opAdd (sVarB 4) (sC (.int 1)))) (sPs (sVarB 5))))) sNil))
def k__law_names_9 : RL.Env → SRes := (sThen t__law_names_7
    t__law_names_8)
def t__law_names_9 : RL.Env → SRes := (sFor (sI rng1 (sCons (s2 opAdd (sVarB 1) (sC (.int 1))) sNil)) (.nm 8)
    k__law_names_9)
def l__law_names_10 : RL.Env → Res D := (sLc (sSeq (sVarB 7)) (.nm 11) [11] (sTest (s2 opNe (sVarB 11) (sC (.str "all")))) (sVar 11))
def t__law_names_11 : RL.Env → SRes := (sRet (sSl l__law_names_10 sPn (sPs (sVarB 1))))
def b__law_names : RL.Env → SRes := (sThen t__law_names_0
    (sThen t__law_names_2
    (sThen t__law_names_3
    (sThen t__law_names_4
    (sThen t__law_names_5
    (sThen t__law_names_6
    (sThen t__law_names_9
    t__law_names_11)))))))
def f__law_names : List D → FR := runDef 12 [] b__law_names
end RN
namespace RN
open PySem RL L2
def mixI (n k : Int) : Int := let r := (n * 48271 + 7919 * k + 11) % 1000003; r * r % 1000003 * r % 1000003
theorem mix_eq {n k : Int} (hk : -(2 ^ 64) < k ∧ k < 2 ^ 64) : f__law_mixed [.int n, .int k] = .ok (.int (mixI n k)) [] := by
  have m1 := mulOk_r (i := n) (j := 48271) (by decide) (by decide)
  have m2 := mulOk_r (i := 7919) hk.1 hk.2
  have hm (x : Int) : 0 ≤ x % 1000003 ∧ x % 1000003 < 1000003 := ⟨Int.emod_nonneg _ (by decide), Int.emod_lt_of_pos _ (by decide)⟩
  unfold mixI
  have r0 := hm (n * 48271 + 7919 * k + 11)
  generalize hr : (n * 48271 + 7919 * k + 11) % 1000003 = r at *
  have m3 := mulOk_r (i := r) (j := r) (by omega) (by omega)
  have s0 := hm (r * r)
  simp only
  generalize hs : r * r % 1000003 = s at *
  have m4 := mulOk_r (i := s) (j := r) (by omega) (by omega)
  rw [f__law_mixed, runDef_ap]
  simp [b__law_mixed, t__law_mixed_0, t__law_mixed_1, entry, opMul_i m1, opMul_i m2, opMul_i m3, opMul_i m4, opMod_i (show (1000003 : Int) ≠ 0 by decide), Int.fmod_eq_emod_of_nonneg, hr, hs]
def signs : List Nat := [97, 98, 99, 100, 101, 102, 103, 104, 105, 106, 107, 108, 109, 110, 111, 112, 113, 114, 115, 116, 117, 118, 119, 120, 121, 122, 48, 49, 50, 51, 52, 53, 54, 55, 56, 57]
abbrev sS : Str := "abcdefghijklmnopqrstuvwxyz0123456789"
theorem signs_eq : sS.cps.toList = signs := by decide +kernel
theorem sS_len : sS.length = 36 := by decide +kernel
def one (c : Nat) : Str := ⟨#[c]⟩
def sg (i : Int) : Nat := signs.getD i.toNat 0
theorem sg_at {i : Int} (h0 : 0 ≤ i) (h : i < 36) : opIx (.str sS) (.int i) = some (.str (one (sg i))) := by
  obtain ⟨n, rfl⟩ := Int.eq_ofNat_of_zero_le h0
  have hz : sS.length ≤ sizeLine := by rw [sS_len]; decide
  show (if sS.length ≤ sizeLine then (atI sS.cps.toList ((n : Nat) : Int)).map fun c => D.str ⟨#[c]⟩ else none) = _
  rw [if_pos hz, signs_eq, RL.atI_nat]
  have hn : n < signs.length := by show n < 36; omega
  rw [List.getElem?_eq_getElem hn]
  show _ = some (D.str (one (signs.getD (n : Int).toNat 0)))
  simp [one, List.getD, List.getElem?_eq_getElem hn]
theorem sg_mem {i : Int} (h0 : 0 ≤ i) (h : i < 36) : sg i ∈ signs := by
  obtain ⟨n, rfl⟩ := Int.eq_ofNat_of_zero_le h0
  have hn : n < signs.length := by show n < 36; omega
  simp [sg, List.getD, List.getElem?_eq_getElem hn]
theorem signs_nodup : signs.Nodup := by decide
theorem sg_inj {i j : Int} (h0 : 0 ≤ i) (h : i < 36) (g0 : 0 ≤ j) (g : j < 36) (e : sg i = sg j) : i = j := by
  obtain ⟨n, rfl⟩ := Int.eq_ofNat_of_zero_le h0
  obtain ⟨m, rfl⟩ := Int.eq_ofNat_of_zero_le g0
  have hn : n < signs.length := by show n < 36; omega
  have hm : m < signs.length := by show m < 36; omega
  simp only [sg, List.getD, Int.toNat_natCast, List.getElem?_eq_getElem hn, List.getElem?_eq_getElem hm, Option.getD_some] at e
  have := (List.getElem_inj signs_nodup).mp e
  omega
structure Nm (x : Str) : Prop where
  sg : ∀ c ∈ x.cps.toList, c ∈ signs
  lo : 1 ≤ x.length
  hi : x.length ≤ 6
  all : x ≠ "all"
theorem join_ones : ∀ cs : List Nat, Txt.join "" (cs.map one) = ⟨cs.toArray⟩ := by
  intro cs
  rw [show Txt.join "" (cs.map one) = Str.join "" (cs.map one) from StrLaws.glued_eq_join _ _]
  apply TL.ext_tl
  rw [TL.tl_join]
  show TL.joinL (TL.tl "") ((cs.map one).map TL.tl) = cs
  have e : TL.tl ("" : Str) = [] := by decide +kernel
  rw [e]
  induction cs with
  | nil => rfl
  | cons c cs ih =>
    cases cs with
    | nil => rfl
    | cons d cs =>
      show TL.tl (one c) ++ ([] ++ TL.joinL [] ((one d :: cs.map one).map TL.tl)) = c :: d :: cs
      rw [List.nil_append]
      have : TL.joinL [] ((one d :: cs.map one).map TL.tl) = d :: cs := ih
      rw [this]
      rfl
def rowAt (row : List Nat) (a l : Nat) (c : Nat) : List Nat := row.take a ++ [c] ++ (row.drop (a + 1)).take (l - (a + 1))
theorem rowAt_at {row : List Nat} {a l c : Nat} (h : a < row.length) : (rowAt row a l c)[a]? = some c := by
  unfold rowAt
  rw [List.append_assoc, List.getElem?_append_right (by rw [List.length_take]; omega), List.length_take, Nat.min_eq_left (by omega), Nat.sub_self]
  rfl
theorem rowAt_len {row : List Nat} {a l c : Nat} (h : a < row.length) (hl : a < l) (hl2 : l ≤ row.length) : (rowAt row a l c).length = l := by
  unfold rowAt
  simp only [List.length_append, List.length_take, List.length_drop, List.length_singleton]
  omega
def stepOk (s : Int) : Prop := s = 1 ∨ s = 5 ∨ s = 7 ∨ s = 11 ∨ s = 13 ∨ s = 17
theorem step_inj {s m : Int} {i j : Nat} (h : stepOk s) (hi : i < 36) (hj : j < 36) (e : (m + s * i) % 36 = (m + s * j) % 36) : i = j := by
  rcases h with rfl | rfl | rfl | rfl | rfl | rfl <;> omega
def nameOf (row : List Nat) (a l : Nat) (m s : Int) (k : Nat) : Str := ⟨(rowAt row a l (sg ((m + s * k) % 36))).toArray⟩
theorem nameOf_inj {row : List Nat} {a l : Nat} {m s : Int} {i j : Nat} (ha : a < row.length) (h : stepOk s) (hi : i < 36) (hj : j < 36) (e : nameOf row a l m s i = nameOf row a l m s j) : i = j := by
  have e1 : rowAt row a l (sg ((m + s * i) % 36)) = rowAt row a l (sg ((m + s * j) % 36)) := by
    have := congrArg (fun x : Str => x.cps.toList) e
    simpa [nameOf] using this
  have e2 := rowAt_at (l := l) (c := sg ((m + s * i) % 36)) ha
  rw [e1, rowAt_at ha] at e2
  exact step_inj h hi hj (sg_inj (Int.emod_nonneg _ (by decide)) (Int.emod_lt_of_pos _ (by decide)) (Int.emod_nonneg _ (by decide)) (Int.emod_lt_of_pos _ (by decide)) (Option.some.inj e2).symm)
abbrev sone (c : Nat) : D := .str (one c)
abbrev Enm (n : Int) (many : Nat) (row : List Nat) (a l : Nat) (s : Int) (fd : List Str) (c8 c9 : Option D) : RL.Env :=
  [some (.int n), some (.int many), some (.str sS), some (.lst false (row.map sone)), some (.int a), some (.int l), some (.int s), some (.lst true (fd.map .str)), c8, c9, none, none]
theorem cleanL_ones (xs : List Nat) : cleanL (xs.map sone) = true := cleanL_all.mpr fun d hd => by
  obtain ⟨i, _, rfl⟩ := List.mem_map.mp hd
  rfl
theorem frzL_ones : ∀ xs : List Nat, frzL (xs.map sone) = xs.map sone
  | [] => by simp [frzL]
  | n :: ns => by simp [frzL, D.frz, frzL_ones ns]
theorem strsD_ones (ys : List Nat) : strsD (ys.map sone) = some (ys.map one) := by
  have := strsD_map (ys.map one)
  rwa [List.map_map] at this
theorem ones_len (ys : List Nat) : ((ys.map one).map (·.length)).sum = ys.length := by
  induction ys with
  | nil => rfl
  | cons y ys ih => simp only [List.map_cons, List.sum_cons, ih, List.length_cons]; show 1 + _ = _; omega
theorem join_row {cs : List Nat} (h : cs.length ≤ 100) {o : Bool} : fJoin "" (.lst o (cs.map sone)) = some (.str ⟨cs.toArray⟩) := by
  have e : ("" : Str).length = 0 := by decide +kernel
  have k : joinOk "" (cs.map one) = true := by
    unfold joinOk
    rw [ones_len, e, List.length_map]
    exact decide_eq_true (by omega)
  show ((strsD (cs.map sone)).bind fun ys => if joinOk "" ys = true then some (D.str (Txt.join "" ys)) else none) = _
  rw [strsD_ones, Option.bind_some, if_pos k, join_ones]
theorem k_eq {n : Int} {many : Nat} {row : List Nat} {a l : Nat} {s : Int} {fd : List Str} {c9 : Option D} {k : Nat} (hr : row.length = 6) (ha : a < 6) (hl : a < l) (hl2 : l ≤ 6) (hs : stepOk s) (hf : fd.length ≤ 100) :
    k__law_names_9 (Enm n many row a l s fd (some (.int k)) c9) = .nx (Enm n many row a l s (fd ++ [nameOf row a l (mixI n 11) s k]) (some (.int k)) (some (sone (sg ((mixI n 11 + s * k) % 36))))) := by
  have m := mix_eq (n := n) (k := 11) (by decide)
  have mk : mulOk s k = true := by
    refine mulOk_l ?_ ?_ <;> (rcases hs with rfl | rfl | rfl | rfl | rfl | rfl <;> decide)
  generalize hv : mixI n 11 = v at *
  have g := sg_at (i := (v + s * k) % 36) (Int.emod_nonneg _ (by decide)) (Int.emod_lt_of_pos _ (by decide))
  have md := mod_pos' (i := v + s * k) (j := 36) (by decide)
  generalize hc : sg ((v + s * k) % 36) = c at *
  have s1 := opSl_l (o := false) (lo := none) (hi := some (a : Int)) (cleanL_ones row)
  have s2 := opSl_l (o := false) (lo := some ((a : Int) + 1)) (hi := some (l : Int)) (cleanL_ones row)
  rw [cut_0n, ← List.map_take] at s1
  rw [show ((a : Int) + 1) = ((a + 1 : Nat) : Int) by omega, cut_nn, ← List.map_drop, ← List.map_take] at s2
  have a1 := opAdd_l (o := true) (o' := true) (cleanL_ones (row.take a)) (show cleanL [sone c] = true from by simp) (by simp [sizeLine]; omega)
  have a2 := opAdd_l (o := true) (o' := true) (xs := (row.take a).map sone ++ [sone c]) (by rw [cleanL_app, cleanL_ones]; rfl) (cleanL_ones ((row.drop (a + 1)).take (l - (a + 1)))) (by simp [sizeLine]; omega)
  have e : (row.take a).map sone ++ [sone c] ++ ((row.drop (a + 1)).take (l - (a + 1))).map sone = (rowAt row a l c).map sone := by simp [rowAt]
  rw [e] at a2
  have jn := join_row (cs := rowAt row a l c) (o := true) (by rw [rowAt_len (by omega) hl (by omega)]; omega)
  have fl : fd.length < sizeLine := by unfold sizeLine; omega
  have z1 : 1 ≤ sizeLine := by decide
  have e2 : (⟨(rowAt row a l c).toArray⟩ : Str) = nameOf row a l v s k := by rw [nameOf, hc]
  unfold k__law_names_9
  simp [t__law_names_7, t__law_names_8, m, opMul_i mk, md, g, s1, a1, z1, a2, jn, fl, e2, -List.map_take, -List.map_drop, -List.map_append]
  rw [show ((a : Int) + 1) = ((a + 1 : Nat) : Int) by omega, s2]
  simp [a1, a2, jn, fl, e2, -List.map_take, -List.map_drop, -List.map_append]
  simp
def rowOf (n : Int) : List Nat := (List.range 6).map fun (j : Nat) => sg (mixI n j % 36)
theorem row_lc {n : Int} {a b c d e f g h i j : Option D} : l__law_names_1 [some (.int n), a, some (.str sS), b, c, d, e, f, g, h, i, j] = .ok (.lst true ((rowOf n).map sone)) := by
  refine sLc_ok (ds := (List.range 6).map fun k => D.int ((k : Nat) : Int)) (by
    simp [rng1, ups]
    rfl) (by simp [sizeLine]) ?_
  unfold rowOf
  rw [List.map_map]
  refine lcRun_of fun k hk => ?_
  have hk : k < 6 := List.mem_range.mp hk
  have m := mix_eq (n := n) (k := (k : Int)) (by omega)
  have md := mod_pos' (i := mixI n k) (j := 36) (by decide)
  have gg := sg_at (i := mixI n k % 36) (Int.emod_nonneg _ (by decide)) (Int.emod_lt_of_pos _ (by decide))
  simp [lcOne, wipeE, Tg.set, m, md, gg]
theorem all_lc {xs : List Str} {n p a b c d e f g i j : Option D} (hl : xs.length ≤ 1000) : l__law_names_10 [n, p, a, b, c, d, e, some (.lst true (xs.map .str)), f, g, i, j] = .ok (.lst true ((xs.filter (fun x : Str => !decide (x = ("all" : Str)))).map .str)) := by
  refine sLc_ok (ds := xs.map .str) (by simp) (by rw [List.length_map]; unfold sizeLine; omega) ?_
  refine lcRun_fl fun x hx => ?_
  simp [lcOne, wipeE, Tg.set]
  split <;> simp
theorem filter_len {xs : List Str} (h : xs.Nodup) (a : Str) : xs.length ≤ (xs.filter fun x : Str => !decide (x = a)).length + 1 := by
  induction xs with
  | nil => simp
  | cons x xs ih =>
    obtain ⟨h1, h2⟩ := List.nodup_cons.mp h
    rw [List.filter_cons]
    by_cases e : x = a
    · subst e
      have : (xs.filter fun y => !decide (y = x)) = xs := List.filter_eq_self.mpr fun y hy => by
        have : y ≠ x := fun z => h1 (z ▸ hy)
        simp [this]
      simp [this]
    · simp [e]
      exact Nat.le_trans (Nat.le_of_eq rfl) (by have := ih h2; omega)
theorem mod_in (a : Int) {b : Int} (h : 0 < b) : 0 ≤ a % b ∧ a % b < b := ⟨Int.emod_nonneg _ (by omega), Int.emod_lt_of_pos _ h⟩
theorem loop_eq {n : Int} {many a l : Nat} {s : Int} {row : List Nat} (hr : row.length = 6) (h : many ≤ 34) (ha : a < 6) (hl : a < l) (hl2 : l ≤ 6) (hs : stepOk s) :
    ∃ c8 c9, forRun (.nm 8) k__law_names_9 (ups 0 (many + 1)) (Enm n many row a l s [] none none) = .nx (Enm n many row a l s ((List.range (many + 1)).map (nameOf row a l (mixI n 11) s)) c8 c9) := by
  obtain ⟨ρ', hf, hI⟩ := for_inv (t := .nm 8) (S := k__law_names_9) (fun k ρ => ∃ c8 c9, ρ = Enm n many row a l s ((List.range k).map (nameOf row a l (mixI n 11) s)) c8 c9)
    (ds := ups 0 (many + 1)) (k := 0) (ρ := Enm n many row a l s [] none none) ⟨none, none, rfl⟩ (by
      rintro i d ρ hd ⟨c8, c9, rfl⟩
      have hi : i < many + 1 := by
        have := (List.getElem?_eq_some_iff.mp hd).1
        rwa [ups_len] at this
      have ed : d = .int (i : Nat) := by
        simp [ups, hi] at hd
        exact hd.symm
      subst ed
      have st := k_eq (n := n) (many := many) (row := row) (a := a) (l := l) (s := s) (fd := (List.range (0 + i)).map (nameOf row a l (mixI n 11) s)) (c9 := c9) (k := i) hr ha hl hl2 hs (by simp; omega)
      refine ⟨_, _, by simp [Tg.set], st, some (.int (i : Nat)), some (sone (sg ((mixI n 11 + s * (i : Int)) % 36))), ?_⟩
      rw [Nat.zero_add, List.range_succ, List.map_append]
      rfl)
  obtain ⟨c8, c9, rfl⟩ := hI
  rw [ups_len, Nat.zero_add] at hf
  exact ⟨c8, c9, hf⟩
theorem pick6 {m : Int} (h0 : 0 ≤ m) (h6 : m < 6) : ∃ s, atI [D.int 1, .int 5, .int 7, .int 11, .int 13, .int 17] m = some (.int s) ∧ stepOk s := by
  obtain ⟨sv, hs1, hs2⟩ := ix_mem (xs := [D.int 1, .int 5, .int 7, .int 11, .int 13, .int 17]) h0 h6
  simp only [List.mem_cons, List.not_mem_nil, or_false] at hs2
  rcases hs2 with rfl | rfl | rfl | rfl | rfl | rfl
  · exact ⟨1, hs1, by simp [stepOk]⟩
  · exact ⟨5, hs1, by simp [stepOk]⟩
  · exact ⟨7, hs1, by simp [stepOk]⟩
  · exact ⟨11, hs1, by simp [stepOk]⟩
  · exact ⟨13, hs1, by simp [stepOk]⟩
  · exact ⟨17, hs1, by simp [stepOk]⟩
theorem run_eq {n m8 m9 m10 : Int} {many a r : Nat} {s : Int} {xs : List Str} {c8 c9 : Option D} (h : many ≤ 34) (hx : xs.length ≤ 1000) (m8e : f__law_mixed [D.int n, D.int 8] = FR.ok (D.int m8) []) (m9e : f__law_mixed [D.int n, D.int 9] = FR.ok (D.int m9) [])
    (m10e : f__law_mixed [D.int n, D.int 10] = FR.ok (D.int m10) []) (q8 : opMod (D.int m8) (D.int 6) = some (D.int a)) (q9 : opMod (D.int m9) (D.int (6 - ↑a)) = some (D.int r)) (q10 : opMod (D.int m10) (D.int 6) = some (D.int (m10 % 6)))
    (hs1 : atI [D.int 1, D.int 5, D.int 7, D.int 11, D.int 13, D.int 17] (m10 % 6) = some (D.int s)) (hf : forRun (.nm 8) k__law_names_9 (ups 0 (many + 1)) (Enm n many (rowOf n) a (a + 1 + r) s [] none none) = .nx (Enm n many (rowOf n) a (a + 1 + r) s xs c8 c9)) :
    f__law_names [.int n, .int many] = .ok (.lst true (((xs.filter fun x : Str => !decide (x = ("all" : Str))).take many).map .str)) [] := by
  have hr1 : rng1 [.int ((many : Int) + 1)] = some (ups 0 (many + 1)) := by
    have : inR ((many : Int) + 1) = true := by simp [inR]; omega
    simp [rng1, this]
  have sl := opSl_l (o := true) (lo := none) (hi := some (many : Int)) (cleanL_strs (ns := xs.filter fun x : Str => !decide (x = ("all" : Str))))
  rw [cut_0n, ← List.map_take] at sl
  have z6 : 6 ≤ sizeLine := by decide
  have e0 : t__law_names_0 [some (.int n), some (.int many), none, none, none, none, none, none, none, none, none, none] = .nx [some (.int n), some (.int many), some (.str sS), none, none, none, none, none, none, none, none, none] := by simp [t__law_names_0]
  have e2 : t__law_names_2 [some (.int n), some (.int many), some (.str sS), none, none, none, none, none, none, none, none, none] = .nx [some (.int n), some (.int many), some (.str sS), some (.lst false ((rowOf n).map sone)), none, none, none, none, none, none, none, none] := by
    simp [t__law_names_2, row_lc, frzL_ones]
  generalize rowOf n = row at *
  have e3 : t__law_names_3 [some (.int n), some (.int many), some (.str sS), some (.lst false (row.map sone)), none, none, none, none, none, none, none, none] = .nx [some (.int n), some (.int many), some (.str sS), some (.lst false (row.map sone)), some (.int a), none, none, none, none, none, none, none] := by
    simp [t__law_names_3, m8e, q8]
  have e4 : t__law_names_4 [some (.int n), some (.int many), some (.str sS), some (.lst false (row.map sone)), some (.int a), none, none, none, none, none, none, none] = .nx [some (.int n), some (.int many), some (.str sS), some (.lst false (row.map sone)), some (.int a), some (.int (a + 1 + r : Nat)), none, none, none, none, none, none] := by
    simp [t__law_names_4, m9e, q9]
  have e5 : t__law_names_5 [some (.int n), some (.int many), some (.str sS), some (.lst false (row.map sone)), some (.int a), some (.int (a + 1 + r : Nat)), none, none, none, none, none, none] = .nx [some (.int n), some (.int many), some (.str sS), some (.lst false (row.map sone)), some (.int a), some (.int (a + 1 + r : Nat)), some (.int s), none, none, none, none, none] := by
    simp [t__law_names_5, m10e, q10, hs1, z6]
  have e6 : t__law_names_6 [some (.int n), some (.int many), some (.str sS), some (.lst false (row.map sone)), some (.int a), some (.int (a + 1 + r : Nat)), some (.int s), none, none, none, none, none] = .nx (Enm n many row a (a + 1 + r) s [] none none) := by
    simp [t__law_names_6]
  have e9 : t__law_names_9 (Enm n many row a (a + 1 + r) s [] none none) = .nx (Enm n many row a (a + 1 + r) s xs c8 c9) := by
    have e : (sCons (s2 opAdd (sVarB 1) (sC (.int 1))) sNil) (Enm n many row a (a + 1 + r) s [] none none) = .ok [.int ((many : Int) + 1)] := by simp
    rw [t__law_names_9, sFor_ap, sI_ap, e, bind_ok, hr1, opt_some, stm_ok]
    exact hf
  have e11 : t__law_names_11 (Enm n many row a (a + 1 + r) s xs c8 c9) = .rt (.lst true (((xs.filter fun x : Str => !decide (x = ("all" : Str))).take many).map .str)) (Enm n many row a (a + 1 + r) s xs c8 c9) := by
    rw [t__law_names_11, sRet_ap, sSl_ap, all_lc hx]
    simp [sl, -List.map_take]
  rw [f__law_names, runDef_ap]
  unfold b__law_names
  rw [sThen_ap, show entry 12 [D.int n, D.int many] = [some (.int n), some (.int many), none, none, none, none, none, none, none, none, none, none] from rfl, e0, andThen_nx, sThen_ap, e2, andThen_nx, sThen_ap, e3, andThen_nx, sThen_ap, e4, andThen_nx, sThen_ap, e5, andThen_nx, sThen_ap, e6, andThen_nx, sThen_ap, e9, andThen_nx, e11]
  rfl
theorem rowOf_len (n : Int) : (rowOf n).length = 6 := by simp [rowOf]
theorem rowOf_mem (n : Int) : ∀ c ∈ rowOf n, c ∈ signs := fun c hc => by
  obtain ⟨j, _, rfl⟩ := List.mem_map.mp hc
  exact sg_mem (mod_in _ (by decide)).1 (mod_in _ (by decide)).2
theorem list_eq {row : List Nat} {many a l : Nat} {m s : Int} (hr : row.length = 6) (hm : ∀ c ∈ row, c ∈ signs) (h : many ≤ 34) (ha : a < 6) (hl : a < l) (hl2 : l ≤ 6) (hs : stepOk s) : ∃ xs : List Str, xs = (((List.range (many + 1)).map (nameOf row a l m s)).filter fun x : Str => !decide (x = ("all" : Str))).take many ∧
    xs.Nodup ∧ xs.length = many ∧ ∀ x ∈ xs, Nm x := by
  generalize hxs : (List.range (many + 1)).map (nameOf row a l m s) = xs
  have nd : xs.Nodup := by
    rw [← hxs]
    refine List.Pairwise.map (R := fun i j => i ≠ j ∧ i < 36 ∧ j < 36) _ (fun i j hij e => hij.1 (nameOf_inj (by omega) hs hij.2.1 hij.2.2 e)) ?_
    refine List.Pairwise.imp_of_mem (R := fun i j => i ≠ j) (fun {i j} hi hj hne => ⟨hne, ?_, ?_⟩) List.nodup_range
    · have := List.mem_range.mp hi; omega
    · have := List.mem_range.mp hj; omega
  have xl : xs.length = many + 1 := by rw [← hxs]; simp
  have nms : ∀ x ∈ xs, (∀ c ∈ x.cps.toList, c ∈ signs) ∧ x.length = l := by
    intro x hx
    rw [← hxs] at hx
    obtain ⟨k, hk, rfl⟩ := List.mem_map.mp hx
    refine ⟨fun c hc => ?_, ?_⟩
    · simp only [nameOf, rowAt, List.toList_toArray, List.mem_append, List.mem_singleton] at hc
      rcases hc with (hc | hc) | hc
      · exact hm c (List.mem_of_mem_take hc)
      · rw [hc]; exact sg_mem (mod_in _ (by decide)).1 (mod_in _ (by decide)).2
      · exact hm c (List.mem_of_mem_drop (List.mem_of_mem_take hc))
    · show (rowAt _ _ _ _).toArray.size = _
      rw [List.size_toArray, rowAt_len (by omega) (by omega) (by omega)]
  refine ⟨_, rfl, (nd.sublist List.filter_sublist).sublist (List.take_sublist _ _), ?_, fun x hx => ?_⟩
  · rw [List.length_take]
    have := filter_len nd "all"
    omega
  · have hx := List.mem_filter.mp (List.mem_of_mem_take hx)
    obtain ⟨n1, n2⟩ := nms x hx.1
    exact ⟨n1, by omega, by omega, by simpa using hx.2⟩
theorem names_eq {n : Int} {many : Nat} (h : many ≤ 34) : ∃ xs : List Str, f__law_names [.int n, .int many] = .ok (.lst true (xs.map .str)) [] ∧ xs.Nodup ∧ xs.length = many ∧ ∀ x ∈ xs, Nm x := by
  have m8 := mix_eq (n := n) (k := 8) (by decide)
  have m9 := mix_eq (n := n) (k := 9) (by decide)
  have m10 := mix_eq (n := n) (k := 10) (by decide)
  generalize mixI n 8 = v8 at m8
  generalize mixI n 9 = v9 at m9
  generalize mixI n 10 = v10 at m10
  have q8 := mod_pos' (i := v8) (j := 6) (by decide)
  obtain ⟨a, ha⟩ := Int.eq_ofNat_of_zero_le (mod_in v8 (b := 6) (by decide)).1
  have ha6 := (mod_in v8 (b := 6) (by decide)).2
  rw [ha] at q8 ha6
  have q9 := mod_pos' (i := v9) (j := 6 - (a : Int)) (by omega)
  obtain ⟨r, hr⟩ := Int.eq_ofNat_of_zero_le (mod_in v9 (b := 6 - (a : Int)) (by omega)).1
  have hr6 := (mod_in v9 (b := 6 - (a : Int)) (by omega)).2
  rw [hr] at q9 hr6
  have q10 := mod_pos' (i := v10) (j := 6) (by decide)
  obtain ⟨s, hs1, hs⟩ := pick6 (mod_in v10 (b := 6) (by decide)).1 (mod_in v10 (b := 6) (by decide)).2
  obtain ⟨c8, c9, hf⟩ := loop_eq (n := n) (a := a) (l := a + 1 + r) (rowOf_len n) h (by omega) (by omega) (by omega) hs
  obtain ⟨xs, e, h1, h2, h3⟩ := list_eq (m := mixI n 11) (rowOf_len n) (rowOf_mem n) h (a := a) (l := a + 1 + r) (by omega) (by omega) (by omega) hs
  have R := run_eq h (by rw [List.length_map, List.length_range]; omega) m8 m9 m10 q8 q9 q10 hs1 hf
  rw [← e] at R
  exact ⟨xs, R, h1, h2, h3⟩
end RN
namespace RH
open PySem RL
abbrev cs_bearing : List Str := ["LevelHandicap", "FactorHandicap", "YardHandicap", "MileHandicap"]
def t_Handicap___init___0 : RL.Env → SRes := (sSetF cs_bearing "bearing" true (plVar 0) (sVar 1))
def b_Handicap___init__ : RL.Env → SRes := t_Handicap___init___0
def f_Handicap___init__ : List D → FR := runDef 2 [0] b_Handicap___init__
def t_handicap_of_0 : RL.Env → SRes := (sAsg (.nm 1) true (sCl (sIx (sVarB 0) (sC (.int 0)))))
def t_handicap_of_1 : RL.Env → SRes := (sRet (sMake "FactorHandicap" 2 f_Handicap___init__ (sCons (sCl (sIx (sVarB 0) (sC (.int 1)))) sNil)))
def t_handicap_of_2 : RL.Env → SRes := (sIfS (sTest (s2 opEq (sVarB 1) (sC (.str "factor")))) t_handicap_of_1 sNext)
def t_handicap_of_3 : RL.Env → SRes := (sRet (sMake "YardHandicap" 2 f_Handicap___init__ (sCons (sCl (sIx (sVarB 0) (sC (.int 1)))) sNil)))
def t_handicap_of_4 : RL.Env → SRes := (sIfS (sTest (s2 opEq (sVarB 1) (sC (.str "yard")))) t_handicap_of_3 sNext)
def t_handicap_of_5 : RL.Env → SRes := (sRet (sMake "MileHandicap" 2 f_Handicap___init__ (sCons (sCl (sIx (sVarB 0) (sC (.int 1)))) sNil)))
def t_handicap_of_6 : RL.Env → SRes := (sIfS (sTest (s2 opEq (sVarB 1) (sC (.str "mile")))) t_handicap_of_5 sNext)
def t_handicap_of_7 : RL.Env → SRes := (sRet (sMake "LevelHandicap" 2 f_Handicap___init__ (sCons (sC (.int 0)) sNil)))
def b_handicap_of : RL.Env → SRes := (sThen t_handicap_of_0
    (sThen t_handicap_of_2
    (sThen t_handicap_of_4
    (sThen t_handicap_of_6
    t_handicap_of_7))))
def f_handicap_of : List D → FR := runDef 2 [] b_handicap_of
end RH
namespace RH
open PySem RL L2
inductive Hc where
  | level | factor (b : Int) | yard (b : Int) | mile (b : Int)
abbrev wL : Str := "level"
abbrev wF : Str := "factor"
abbrev wY : Str := "yard"
abbrev wM : Str := "mile"
def Hc.word : Hc → Str
  | level => wL
  | factor _ => wF
  | yard _ => wY
  | mile _ => wM
def Hc.cls : Hc → Str
  | level => "LevelHandicap"
  | factor _ => "FactorHandicap"
  | yard _ => "YardHandicap"
  | mile _ => "MileHandicap"
def Hc.num : Hc → Int
  | level => 0
  | factor b => b
  | yard b => b
  | mile b => b
def Hc.obj (o : Bool) (h : Hc) : D := .obj o h.cls ["bearing"] [.int h.num]
def Hc.plain : Hc → D
  | level => .tup [.str wL]
  | factor b => .tup [.str wF, .int b]
  | yard b => .tup [.str wY, .int b]
  | mile b => .tup [.str wM, .int b]
theorem n1 : wL ≠ wF := by decide +kernel
theorem n2 : wL ≠ wY := by decide +kernel
theorem n3 : wL ≠ wM := by decide +kernel
theorem n4 : wF ≠ wY := by decide +kernel
theorem n5 : wF ≠ wM := by decide +kernel
theorem n6 : wY ≠ wM := by decide +kernel
theorem k1 : ("LevelHandicap" : Str) ≠ "FactorHandicap" := by decide +kernel
theorem k2 : ("LevelHandicap" : Str) ≠ "YardHandicap" := by decide +kernel
theorem k3 : ("LevelHandicap" : Str) ≠ "MileHandicap" := by decide +kernel
theorem k4 : ("FactorHandicap" : Str) ≠ "YardHandicap" := by decide +kernel
theorem k5 : ("FactorHandicap" : Str) ≠ "MileHandicap" := by decide +kernel
theorem k6 : ("YardHandicap" : Str) ≠ "MileHandicap" := by decide +kernel
theorem cls_mem (h : Hc) : h.cls ∈ cs_bearing := by cases h <;> simp [Hc.cls]
@[simp] theorem obj_clean {h : Hc} : (h.obj false).clean = true := by simp [Hc.obj, D.clean, cleanL]
@[simp] theorem obj_frz {o : Bool} {h : Hc} : (h.obj o).frz = h.obj false := by simp [Hc.obj, D.frz, frzL]
@[simp] theorem plain_clean {h : Hc} : h.plain.clean = true := by cases h <;> simp [Hc.plain]
@[simp] theorem plain_frz {h : Hc} : h.plain.frz = h.plain := by cases h <;> simp [Hc.plain]
theorem bearing {o : Bool} {h : Hc} : getF cs_bearing "bearing" (h.obj o) = some (.int h.num) := by
  have := cls_mem h
  rw [Hc.obj, getF, if_pos this]
  simp [ixOf]
theorem sz : ("FactorHandicap" : Str) ∈ cs_bearing := by simp
theorem init_eq {c : Str} {b : Int} (h : c ∈ cs_bearing) : f_Handicap___init__ [.obj true c [] [], .int b] = .ok .non [.obj true c ["bearing"] [.int b]] := by
  have h' := h
  simp only [cs_bearing, List.mem_cons, List.not_mem_nil, or_false] at h'
  rw [f_Handicap___init__, runDef_ap]
  simp [b_Handicap___init__, t_Handicap___init___0, entry, setF, h', putFN, putFD]
theorem make_eq {c : Str} {b : Int} (h : c ∈ cs_bearing) : mkRes c 2 f_Handicap___init__ [.int b] = .ok (.obj true c ["bearing"] [.int b]) := by
  simp [mkRes, init_eq h]
theorem of_eq (h : Hc) : f_handicap_of [h.plain] = .ok (h.obj true) [] := by
  have m1 := make_eq (c := "FactorHandicap") (b := h.num) (by simp)
  have m2 := make_eq (c := "YardHandicap") (b := h.num) (by simp)
  have m3 := make_eq (c := "MileHandicap") (b := h.num) (by simp)
  have m4 := make_eq (c := "LevelHandicap") (b := 0) (by simp)
  rw [f_handicap_of, runDef_ap]
  cases h <;> simp only [Hc.num] at m1 m2 m3 <;> simp [b_handicap_of, t_handicap_of_0, t_handicap_of_2, t_handicap_of_4, t_handicap_of_6, t_handicap_of_7, t_handicap_of_1, t_handicap_of_3, t_handicap_of_5, entry, Hc.plain, n1, n2, n3, n4, n5, n6, n1.symm, n2.symm, n3.symm, n4.symm, n5.symm, n6.symm, m1, m2, m3, m4, Hc.obj, Hc.cls, Hc.num]
def Hc.text : Hc → Str
  | .level => wL
  | .factor b => wF ++ Str.ofString " " ++ Str.ofString (toString b)
  | .yard b => wY ++ Str.ofString " " ++ Str.ofString (toString b)
  | .mile b => wM ++ Str.ofString " " ++ Str.ofString (toString b)
end RH
namespace RM
open PySem RL RN
def t__law_cell_at_0 : RL.Env → SRes := (sRet (sCl (sIx (sVarB 0) (sVarB 1))))
def t__law_cell_at_1 : RL.Env → SRes := (sIfS (sTest (s2 opLt (sVarB 1) (sCall (on1 fLenX) (sCons (sVarB 0) sNil)))) t__law_cell_at_0 sNext)
def b__law_cell_at : RL.Env → SRes := (sThen t__law_cell_at_1
    (sRet (sC (.int 0))))
def f__law_cell_at : List D → FR := runDef 2 [] b__law_cell_at
def t__law_handicap_0 : RL.Env → SRes := (sAsg (.nm 1) true (sIx (sLst (sCons (sC (.int 1000)) (sCons (s2 opAdd (sC (.int 1)) (s2 opMod (sCallF 2 f__law_mixed (sCons (sVar 0) (sCons (sC (.int 31)) sNil))) (sC (.int 5000)))) (sCons (s2 opAdd (sC (.int 900)) (s2 opMod (sCallF 2 f__law_mixed (sCons (sVar 0) (sCons (sC (.int 31)) sNil))) (sC (.int 200)))) sNil)))) (s2 opMod (sCallF 2 f__law_mixed (sCons (sVar 0) (sCons (sC (.int 32)) sNil))) (sC (.int 3)))))
def t__law_handicap_1 : RL.Env → SRes := (sAsg (.nm 2) true (sIx (sLst (sCons (sC (.str "level")) (sCons (sC (.str "factor")) (sCons (sC (.str "yard")) (sCons (sC (.str "mile")) sNil))))) (s2 opMod (sCallF 2 f__law_mixed (sCons (sVar 0) (sCons (sC (.int 30)) sNil))) (sC (.int 4)))))
def t__law_handicap_2 : RL.Env → SRes := (sRet (sIf (sTest (s2 opEq (sVarB 2) (sC (.str "level")))) (sTup (sCons (sVar 2) sNil)) (sTup (sCons (sVar 2) (sCons (sVar 1) sNil)))))
def b__law_handicap : RL.Env → SRes := (sThen t__law_handicap_0
    (sThen t__law_handicap_1
    t__law_handicap_2))
def f__law_handicap : List D → FR := runDef 3 [] b__law_handicap
def t__law_meeting_0 : RL.Env → SRes := (sAsg (.nm 3) true (sCallF 2 f__law_names (sCons (sCallF 2 f__law_mixed (sCons (sCallF 2 f__law_cell_at (sCons (sVar 0) (sCons (sC (.int 0)) sNil))) (sCons (sC (.int 1)) sNil))) (sCons (sC (.int 6)) sNil))))
def t__law_meeting_1 : RL.Env → SRes := (sAsg (.nm 4) false (sLst sNil))
def t__law_meeting_2 : RL.Env → SRes := (sMut mAppend (plVar 4) (sCons (sTup (sCons (sCl (sIx (sVarB 3) (sVarB 5))) (sCons (sCallF 1 f__law_handicap (sCons (sCallF 2 f__law_mixed (sCons (sCallF 2 f__law_cell_at (sCons (sVar 0) (sCons (sC (.int 0)) sNil))) (sCons (s2 opAdd (sC (.int 20)) (sVarB 5)) sNil))) sNil)) sNil))) sNil))
def t__law_meeting_3 : RL.Env → SRes := (sFor (sI rng1 (sCons (s2 opAdd (sC (.int 1)) (s2 opMod (sCallF 2 f__law_cell_at (sCons (sVar 0) (sCons (sC (.int 0)) sNil))) (sC (.int 6)))) sNil)) (.nm 5)
    t__law_meeting_2)
def t__law_meeting_4 : RL.Env → SRes := (sAsg (.nm 6) true (sCallF 2 f__law_names (sCons (sCallF 2 f__law_mixed (sCons (sCallF 2 f__law_cell_at (sCons (sVar 0) (sCons (sC (.int 1)) sNil))) (sCons (sC (.int 2)) sNil))) (sCons (sC (.int 24)) sNil))))
def t__law_meeting_5 : RL.Env → SRes := (sAsg (.nm 7) true (sSl (sCallF 2 f__law_names (sCons (sCallF 2 f__law_mixed (sCons (sCallF 2 f__law_cell_at (sCons (sVar 0) (sCons (sC (.int 2)) sNil))) (sCons (sC (.int 3)) sNil))) (sCons (sC (.int 3)) sNil))) sPn (sPs (s2 opAdd (sC (.int 1)) (s2 opMod (sCallF 2 f__law_cell_at (sCons (sVar 0) (sCons (sC (.int 2)) sNil))) (sC (.int 3)))))))
def t__law_meeting_6 : RL.Env → SRes := (sAsg (.nm 8) false (sLst sNil))
def t__law_meeting_7 : RL.Env → SRes := (sAsg (.nm 14) true (sCallF 2 f__law_mixed (sCons (sCallF 2 f__law_cell_at (sCons (sVar 0) (sCons (sC (.int 1)) sNil))) (sCons (s2 opAdd (sC (.int 40)) (sVarB 5)) sNil))))
def t__law_meeting_8 : RL.Env → SRes := (sMut mAppend (plVar 8) (sCons (sTup (sCons (sCl (sIx (sVarB 6) (sVarB 5))) (sCons (sCl (sIx (sIx (sVarB 4) (s2 opMod (sVarB 14) (sCall (on1 fLenX) (sCons (sVarB 4) sNil)))) (sC (.int 0)))) (sCons (sCl (sIx (sVarB 7) (s2 opMod (s2 opFdiv (sVarB 14) (sC (.int 6))) (sCall (on1 fLenX) (sCons (sVarB 7) sNil))))) sNil)))) sNil))
def k__law_meeting_9 : RL.Env → SRes := (sThen t__law_meeting_7
    t__law_meeting_8)
def t__law_meeting_9 : RL.Env → SRes := (sFor (sI rng1 (sCons (s2 opAdd (sC (.int 1)) (s2 opMod (sCallF 2 f__law_mixed (sCons (sCallF 2 f__law_cell_at (sCons (sVar 0) (sCons (sC (.int 1)) sNil))) (sCons (sC (.int 4)) sNil))) (sVarB 1))) sNil)) (.nm 5)
    k__law_meeting_9)
def t__law_meeting_10 : RL.Env → SRes := (sAsg (.nm 9) true (s2 opMod (s2 opFdiv (sCallF 2 f__law_cell_at (sCons (sVar 0) (sCons (sC (.int 2)) sNil))) (sC (.int 3))) (sC (.int 4))))
def l__law_meeting_11 : RL.Env → Res D := (sLc (sI rng1 (sCons (sVarB 9) sNil)) (.nm 5) [5] sYes (s2 opAdd (sC (.int 1)) (s2 opMod (sCallF 2 f__law_mixed (sCons (sCallF 2 f__law_cell_at (sCons (sVar 0) (sCons (sC (.int 2)) sNil))) (sCons (s2 opAdd (sC (.int 70)) (sVarB 5)) sNil))) (sIx (sLst (sCons (sC (.int 5)) (sCons (sC (.int 5)) (sCons (sC (.int 12)) sNil)))) (s2 opMod (sVarB 5) (sC (.int 3)))))))
def t__law_meeting_12 : RL.Env → SRes := (sAsg (.nm 10) true l__law_meeting_11)
def l__law_meeting_13 : RL.Env → Res D := (sLc (sSeq (sVarB 8)) (.nm 16) [16] sYes (sCl (sIx (sVarB 16) (sC (.int 2)))))
def t__law_meeting_14 : RL.Env → SRes := (sAsg (.nm 11) true (s2 opAdd l__law_meeting_13 (sLst (sCons (sC (.str "all")) sNil))))
def t__law_meeting_15 : RL.Env → SRes := (sAsg (.nm 12) false (sLst sNil))
def t__law_meeting_16 : RL.Env → SRes := (sAsg (.nm 13) true (sCallF 2 f__law_names (sCons (sCallF 2 f__law_mixed (sCons (sCallF 2 f__law_cell_at (sCons (sVar 0) (sCons (sC (.int 3)) sNil))) (sCons (sC (.int 5)) sNil))) (sCons (sC (.int 12)) sNil))))
def t__law_meeting_17 : RL.Env → SRes := (sAsg (.nm 14) true (sCallF 2 f__law_mixed (sCons (sCallF 2 f__law_cell_at (sCons (sVar 0) (sCons (sC (.int 3)) sNil))) (sCons (s2 opAdd (sC (.int 80)) (sVarB 5)) sNil))))
def t__law_meeting_18 : RL.Env → SRes := (sAsg (.nm 15) true (sIx (sLst (sCons (sC (.int 0)) (sCons (s2 opMod (sVarB 14) (sC (.int 40000))) (sCons (s2 opMod (sVarB 14) (sC (.int 359000))) sNil)))) (s2 opMod (sVarB 14) (sC (.int 3)))))
def t__law_meeting_19 : RL.Env → SRes := (sMut mAppend (plVar 12) (sCons (sTup (sCons (sCl (sIx (sVarB 13) (sVarB 5))) (sCons (sCl (sIx (sVarB 11) (s2 opMod (s2 opFdiv (sVarB 14) (sC (.int 3))) (sCall (on1 fLenX) (sCons (sVarB 11) sNil))))) (sCons (sVar 15) (sCons (s2 opMod (s2 opFdiv (sVarB 14) (sC (.int 100))) (sIx (sLst (sCons (sC (.int 1)) (sCons (sC (.int 300)) (sCons (sC (.int 10000)) sNil)))) (s2 opMod (sVarB 14) (sC (.int 3))))) sNil))))) sNil))
def k__law_meeting_21 : RL.Env → SRes := (sThen t__law_meeting_17
    (sThen t__law_meeting_18
    t__law_meeting_19))
def t__law_meeting_20 : RL.Env → SRes := (sFor (sI rng1 (sCons (s2 opMod (sCallF 2 f__law_mixed (sCons (sCallF 2 f__law_cell_at (sCons (sVar 0) (sCons (sC (.int 3)) sNil))) (sCons (sC (.int 6)) sNil))) (s2 opAdd (sVarB 2) (sC (.int 1)))) sNil)) (.nm 5)
    k__law_meeting_21)
def t__law_meeting_21 : RL.Env → SRes := (sRet (sTup (sCons (sCall (on1 fTux) (sCons (sVarB 4) sNil)) (sCons (sCall (on1 fTuple) (sCons (sVarB 8) sNil)) (sCons (sCall (on1 fTuple) (sCons (s1 fSortSet (sVarB 10)) sNil)) (sCons (sCall (on1 fTuple) (sCons (sVarB 12) sNil)) sNil))))))
def b__law_meeting : RL.Env → SRes := (sThen t__law_meeting_0
    (sThen t__law_meeting_1
    (sThen t__law_meeting_3
    (sThen t__law_meeting_4
    (sThen t__law_meeting_5
    (sThen t__law_meeting_6
    (sThen t__law_meeting_9
    (sThen t__law_meeting_10
    (sThen t__law_meeting_12
    (sThen t__law_meeting_14
    (sThen t__law_meeting_15
    (sThen t__law_meeting_16
    (sThen t__law_meeting_20
    t__law_meeting_21)))))))))))))
def f__law_meeting : List D → FR := runDef 17 [] b__law_meeting
end RM
namespace RM
open PySem RL L2
def cellI (ns : List Int) (k : Nat) : Int := ns.getD k 0
theorem cell_eq {ns : List Int} {k : Nat} : f__law_cell_at [.scr ns, .int (k : Int)] = .ok (.int (cellI ns k)) [] := by
  rw [f__law_cell_at, runDef_ap]
  by_cases h : k < ns.length
  · have e : opIx (.scr ns) (.int (k : Int)) = some (.int (cellI ns k)) := by
      show (atI ns (k : Int)).map D.int = _
      rw [RL.atI_nat, List.getElem?_eq_getElem h]
      simp [cellI, List.getD, List.getElem?_eq_getElem h]
    simp [b__law_cell_at, t__law_cell_at_1, t__law_cell_at_0, entry, h, e]
  · have e : cellI ns k = 0 := by simp [cellI, List.getD, List.getElem?_eq_none (Nat.le_of_not_lt h)]
    simp [b__law_cell_at, t__law_cell_at_1, t__law_cell_at_0, entry, h, e]
theorem cell_0 {ns : List Int} : f__law_cell_at [.scr ns, .int 0] = .ok (.int (cellI ns 0)) [] := cell_eq (k := 0)
theorem cell_1 {ns : List Int} : f__law_cell_at [.scr ns, .int 1] = .ok (.int (cellI ns 1)) [] := cell_eq (k := 1)
theorem cell_2 {ns : List Int} : f__law_cell_at [.scr ns, .int 2] = .ok (.int (cellI ns 2)) [] := cell_eq (k := 2)
theorem cell_3 {ns : List Int} : f__law_cell_at [.scr ns, .int 3] = .ok (.int (cellI ns 3)) [] := cell_eq (k := 3)
def HcOk (h : RH.Hc) : Prop := h = .level ∨ (1 ≤ h.num ∧ h.num ≤ 5000)
theorem hand_eq (n : Int) : ∃ h : RH.Hc, f__law_handicap [.int n] = .ok h.plain [] ∧ HcOk h := by
  have m30 := RN.mix_eq (n := n) (k := 30) (by decide)
  have m31 := RN.mix_eq (n := n) (k := 31) (by decide)
  have m32 := RN.mix_eq (n := n) (k := 32) (by decide)
  generalize RN.mixI n 30 = v30 at m30
  generalize RN.mixI n 31 = v31 at m31
  generalize RN.mixI n 32 = v32 at m32
  have q4 := mod_pos' (i := v30) (j := 4) (by decide)
  have q3 := mod_pos' (i := v32) (j := 3) (by decide)
  have q5 := mod_pos' (i := v31) (j := 5000) (by decide)
  have q2 := mod_pos' (i := v31) (j := 200) (by decide)
  have b4 := RN.mod_in v30 (b := 4) (by decide)
  have b3 := RN.mod_in v32 (b := 3) (by decide)
  have b5 := RN.mod_in v31 (b := 5000) (by decide)
  have b2 := RN.mod_in v31 (b := 200) (by decide)
  generalize v30 % 4 = w at *
  generalize v32 % 3 = i at *
  generalize v31 % 5000 = x at *
  generalize v31 % 200 = y at *
  obtain ⟨c, c1, c2⟩ := ix_mem (xs := [D.int 1000, .int (1 + x), .int (900 + y)]) b3.1 b3.2
  obtain ⟨z, rfl, z1, z2⟩ : ∃ z : Int, c = .int z ∧ 1 ≤ z ∧ z ≤ 5000 := by
    simp only [List.mem_cons, List.not_mem_nil, or_false] at c2
    rcases c2 with rfl | rfl | rfl
    · exact ⟨_, rfl, by omega, by omega⟩
    · exact ⟨_, rfl, by omega, by omega⟩
    · exact ⟨_, rfl, by omega, by omega⟩
  obtain ⟨d, d1, d2⟩ := ix_mem (xs := [D.str RH.wL, .str RH.wF, .str RH.wY, .str RH.wM]) b4.1 b4.2
  have s3 : 3 ≤ sizeLine := by decide
  have s2 : 2 ≤ sizeLine := by decide
  have s1 : 1 ≤ sizeLine := by decide
  have s4 : 4 ≤ sizeLine := by decide
  have e0 : t__law_handicap_0 [some (.int n), none, none] = .nx [some (.int n), some (.int z), none] := by
    simp [t__law_handicap_0, m31, m32, q3, q5, q2, c1, s3]
  have e1 : t__law_handicap_1 [some (.int n), some (.int z), none] = .nx [some (.int n), some (.int z), some d.frz] := by
    simp [t__law_handicap_1, m30, q4, d1, s4]
  rw [f__law_handicap, runDef_ap]
  unfold b__law_handicap
  rw [sThen_ap, show entry 3 [D.int n] = [some (.int n), none, none] from rfl, e0, andThen_nx, sThen_ap, e1, andThen_nx]
  simp only [List.mem_cons, List.not_mem_nil, or_false] at d2
  rcases d2 with rfl | rfl | rfl | rfl
  · exact ⟨.level, by simp [t__law_handicap_2, RH.Hc.plain, D.frz, s1, s2], .inl rfl⟩
  · exact ⟨.factor z, by simp [t__law_handicap_2, RH.Hc.plain, D.frz, s1, s2, RH.n1.symm], .inr ⟨z1, z2⟩⟩
  · exact ⟨.yard z, by simp [t__law_handicap_2, RH.Hc.plain, D.frz, s1, s2, RH.n2.symm], .inr ⟨z1, z2⟩⟩
  · exact ⟨.mile z, by simp [t__law_handicap_2, RH.Hc.plain, D.frz, s1, s2, RH.n3.symm], .inr ⟨z1, z2⟩⟩
end RM
namespace RM
open PySem RL L2
abbrev ClT := Str × RH.Hc
def clD (c : ClT) : D := .tup [.str c.1, c.2.plain]
theorem clD_clean (c : ClT) : (clD c).clean = true := by simp [clD, D.clean, cleanL]
theorem clD_frz (c : ClT) : (clD c).frz = clD c := by simp [clD, D.frz, frzL]
theorem frzL_of {α : Type} {f : α → D} (h : ∀ a, (f a).frz = f a) : ∀ xs : List α, frzL (xs.map f) = xs.map f
  | [] => by simp [frzL]
  | x :: xs => by simp [frzL, h x, frzL_of h xs]
theorem cleanL_of {α : Type} {f : α → D} (h : ∀ a, (f a).clean = true) (xs : List α) : cleanL (xs.map f) = true := cleanL_all.mpr fun d hd => by
  obtain ⟨i, _, rfl⟩ := List.mem_map.mp hd
  exact h i
theorem ix_str {o : Bool} {xs : List Str} {k : Nat} (h : k < xs.length) : opIx (.lst o (xs.map .str)) (.int (k : Int)) = some (.str (xs.getD k "")) := by
  show atI (xs.map D.str) (k : Int) = _
  rw [RL.atI_nat, List.getElem?_map, List.getElem?_eq_getElem h]
  simp [List.getD, List.getElem?_eq_getElem h]
abbrev E1 (ns : List Int) (nb nr : Int) (nm : List Str) (cs : List ClT) (k : Option D) : RL.Env :=
  [some (.scr ns), some (.int nb), some (.int nr), some (.lst false (nm.map .str)), some (.lst true (cs.map clD)), k, none, none, none, none, none, none, none, none, none, none, none]
theorem cl_step {ns : List Int} {nb nr : Int} {nm : List Str} {cs : List ClT} {k : Nat} (hk : k < nm.length) (hc : cs.length ≤ 100) (hk2 : k ≤ 1000) :
    ∃ h : RH.Hc, HcOk h ∧ t__law_meeting_2 (E1 ns nb nr nm cs (some (.int (k : Int)))) = .nx (E1 ns nb nr nm (cs ++ [(nm.getD k "", h)]) (some (.int (k : Int)))) := by
  have m := RN.mix_eq (n := cellI ns 0) (k := 20 + (k : Int)) (by omega)
  obtain ⟨h, h1, h2⟩ := hand_eq (RN.mixI (cellI ns 0) (20 + (k : Int)))
  have s2 : 2 ≤ sizeLine := by decide
  have fl : cs.length < sizeLine := by unfold sizeLine; omega
  have ix := ix_str (o := false) hk
  refine ⟨h, h2, ?_⟩
  simp [t__law_meeting_2, cell_0, m, h1, s2, fl, ix, clD]
theorem cl_loop {ns : List Int} {nb nr : Int} {nm : List Str} {n : Nat} (hn : n ≤ nm.length) (hn2 : n ≤ 100) :
    ∃ (cs : List ClT) (k : Option D), forRun (.nm 5) t__law_meeting_2 (ups 0 n) (E1 ns nb nr nm [] none) = .nx (E1 ns nb nr nm cs k) ∧ cs.map (·.1) = nm.take n ∧ ∀ c ∈ cs, HcOk c.2 := by
  obtain ⟨ρ', hf, cs, k, rfl, h1, h2⟩ := for_inv (t := .nm 5) (S := t__law_meeting_2) (fun i ρ => ∃ cs k, ρ = E1 ns nb nr nm cs k ∧ cs.map (·.1) = nm.take i ∧ ∀ c ∈ cs, HcOk c.2)
    (ds := ups 0 n) (k := 0) (ρ := E1 ns nb nr nm [] none) ⟨[], none, rfl, by simp, by simp⟩ (by
      rintro i d ρ hd ⟨cs, k, rfl, h1, h2⟩
      have hi : i < n := by
        have := (List.getElem?_eq_some_iff.mp hd).1
        rwa [ups_len] at this
      have ed : d = .int (i : Nat) := by
        simp [ups, hi] at hd
        exact hd.symm
      subst ed
      rw [Nat.zero_add] at h1
      have cl : cs.length = i := by
        have := congrArg List.length h1
        rw [List.length_map, List.length_take] at this
        omega
      obtain ⟨h, g1, g2⟩ := cl_step (ns := ns) (nb := nb) (nr := nr) (nm := nm) (cs := cs) (k := i) (by omega) (by omega) (by omega)
      refine ⟨_, _, by simp [Tg.set], g2, _, _, rfl, ?_, ?_⟩
      · rw [Nat.zero_add, List.map_append, h1, List.take_succ]
        rw [List.getElem?_eq_getElem (by omega)]
        simp [List.getD, List.getElem?_eq_getElem (show i < nm.length by omega)]
      · intro c hc
        rcases List.mem_append.mp hc with hc | hc
        · exact h2 c hc
        · rw [List.mem_singleton.mp hc]; exact g1)
  rw [ups_len, Nat.zero_add] at h1
  exact ⟨cs, k, hf, h1, h2⟩
end RM
namespace RM
open PySem RL L2
abbrev BtT := Str × Str × Str
def boatD (b : BtT) : D := .tup [.str b.1, .str b.2.1, .str b.2.2]
theorem boatD_clean (c : BtT) : (boatD c).clean = true := by simp [boatD, D.clean, cleanL]
theorem boatD_frz (c : BtT) : (boatD c).frz = boatD c := by simp [boatD, D.frz, frzL]
theorem ix_one {α : Type} {f : α → D} {o : Bool} {xs : List α} {i : Int} (h : 0 < xs.length) : ∃ a ∈ xs, opIx (.lst o (xs.map f)) (.int (i % xs.length)) = some (f a) := by
  have b := RN.mod_in i (b := (xs.length : Int)) (by omega)
  obtain ⟨v, v1, v2⟩ := ix_mem (xs := xs.map f) b.1 (by rw [List.length_map]; exact b.2)
  obtain ⟨a, ha, rfl⟩ := List.mem_map.mp v2
  exact ⟨a, ha, v1⟩
abbrev E2 (ns : List Int) (nb nr : Int) (nm : List Str) (cs : List ClT) (k : Option D) (sl fl : List Str) (bs : List BtT) (m : Option D) : RL.Env :=
  [some (.scr ns), some (.int nb), some (.int nr), some (.lst false (nm.map .str)), some (.lst true (cs.map clD)), k, some (.lst false (sl.map .str)), some (.lst false (fl.map .str)), some (.lst true (bs.map boatD)), none, none, none, none, none, m, none, none]
theorem bt_step {ns : List Int} {nb nr : Int} {nm : List Str} {cs : List ClT} {sl fl : List Str} {bs : List BtT} {m0 : Option D} {k : Nat} (hk : k < sl.length) (hb : bs.length ≤ 100) (hk2 : k ≤ 1000) (hc : 0 < cs.length) (hf : 0 < fl.length) :
    ∃ (c : ClT) (f : Str) (m : Option D), c ∈ cs ∧ f ∈ fl ∧ k__law_meeting_9 (E2 ns nb nr nm cs (some (.int (k : Int))) sl fl bs m0) = .nx (E2 ns nb nr nm cs (some (.int (k : Int))) sl fl (bs ++ [(sl.getD k "", c.1, f)]) m) := by
  have m := RN.mix_eq (n := cellI ns 1) (k := 40 + (k : Int)) (by omega)
  generalize RN.mixI (cellI ns 1) (40 + (k : Int)) = v at m
  have z3 : 3 ≤ sizeLine := by decide
  have lt : bs.length < sizeLine := by unfold sizeLine; omega
  have ix := ix_str (o := false) hk
  have q1 := mod_pos' (i := v) (j := (cs.length : Int)) (by omega)
  have q2 := mod_pos' (i := v / 6) (j := (fl.length : Int)) (by omega)
  have q3 := fdiv_pos' (i := v) (j := 6) (by decide) (by decide)
  obtain ⟨c, c1, c2⟩ := ix_one (f := clD) (o := true) (xs := cs) (i := v) hc
  obtain ⟨f, f1, f2⟩ := ix_one (f := D.str) (o := false) (xs := fl) (i := v / 6) hf
  have c3 : opIx (clD c) (.int 0) = some (.str c.1) := rfl
  generalize hi : v % (cs.length : Int) = i at *
  generalize v / 6 = v6 at *
  generalize hj : v6 % (fl.length : Int) = j at *
  refine ⟨c, f, some (.int v), c1, f1, ?_⟩
  have e7 : t__law_meeting_7 (E2 ns nb nr nm cs (some (.int (k : Int))) sl fl bs m0) = .nx (E2 ns nb nr nm cs (some (.int (k : Int))) sl fl bs (some (.int v))) := by
    simp [t__law_meeting_7, cell_1, m]
  have e8 : t__law_meeting_8 (E2 ns nb nr nm cs (some (.int (k : Int))) sl fl bs (some (.int v))) = .nx (E2 ns nb nr nm cs (some (.int (k : Int))) sl fl (bs ++ [(sl.getD k "", c.1, f)]) (some (.int v))) := by
    simp [t__law_meeting_8, ix, q1, q2, q3, c2, c3, f2, z3, lt, boatD]
  rw [k__law_meeting_9, sThen_ap, e7, andThen_nx, e8]
theorem bt_loop {ns : List Int} {nb nr : Int} {nm : List Str} {cs : List ClT} {sl fl : List Str} {k0 : Option D} {n : Nat} (hn : n ≤ sl.length) (hn2 : n ≤ 100) (hc : 0 < cs.length) (hf : 0 < fl.length) :
    ∃ (bs : List BtT) (k m : Option D), forRun (.nm 5) k__law_meeting_9 (ups 0 n) (E2 ns nb nr nm cs k0 sl fl [] none) = .nx (E2 ns nb nr nm cs k sl fl bs m) ∧ bs.map (·.1) = sl.take n ∧ ∀ b ∈ bs, b.2.1 ∈ cs.map (·.1) ∧ b.2.2 ∈ fl := by
  obtain ⟨ρ', hf, bs, k, m, rfl, h1, h2⟩ := for_inv (t := .nm 5) (S := k__law_meeting_9) (fun i ρ => ∃ bs k m, ρ = E2 ns nb nr nm cs k sl fl bs m ∧ bs.map (·.1) = sl.take i ∧ ∀ b ∈ bs, b.2.1 ∈ cs.map (·.1) ∧ b.2.2 ∈ fl)
    (ds := ups 0 n) (k := 0) (ρ := E2 ns nb nr nm cs k0 sl fl [] none) ⟨[], k0, none, rfl, by simp, by simp⟩ (by
      rintro i d ρ hd ⟨bs, k, m, rfl, h1, h2⟩
      have hi : i < n := by
        have := (List.getElem?_eq_some_iff.mp hd).1
        rwa [ups_len] at this
      have ed : d = .int (i : Nat) := by
        simp [ups, hi] at hd
        exact hd.symm
      subst ed
      rw [Nat.zero_add] at h1
      have cl : bs.length = i := by
        have := congrArg List.length h1
        rw [List.length_map, List.length_take] at this
        omega
      obtain ⟨c, f, m', g1, g2, g3⟩ := bt_step (ns := ns) (nb := nb) (nr := nr) (nm := nm) (cs := cs) (sl := sl) (fl := fl) (bs := bs) (m0 := m) (k := i) (by omega) (by omega) (by omega) hc hf
      refine ⟨_, _, by simp [Tg.set], g3, _, _, _, rfl, ?_, ?_⟩
      · rw [Nat.zero_add, List.map_append, h1, List.take_succ]
        rw [List.getElem?_eq_getElem (by omega)]
        simp [List.getD, List.getElem?_eq_getElem (show i < sl.length by omega)]
      · intro b hb
        rcases List.mem_append.mp hb with hb | hb
        · exact h2 b hb
        · rw [List.mem_singleton.mp hb]; exact ⟨List.mem_map.mpr ⟨c, g1, rfl⟩, g2⟩)
  rw [ups_len, Nat.zero_add] at h1
  exact ⟨bs, k, m, hf, h1, h2⟩
end RM
namespace RM
open PySem RL L2
def dropAt (c : Int) (k : Nat) : Int := 1 + RN.mixI c (70 + (k : Int)) % (if k = 2 then 12 else 5)
theorem dropAt_in (c : Int) (k : Nat) : 1 ≤ dropAt c k ∧ dropAt c k ≤ 12 := by
  unfold dropAt
  have h12 := RN.mod_in (RN.mixI c (70 + (k : Int))) (b := 12) (by decide)
  have h5 := RN.mod_in (RN.mixI c (70 + (k : Int))) (b := 5) (by decide)
  split <;> omega
abbrev E3 (ns : List Int) (nb nr : Int) (nm : List Str) (cs : List ClT) (k : Option D) (sl fl : List Str) (bs : List BtT) (mn dr tl rs cl : Option D) (m op bt : Option D) : RL.Env :=
  [some (.scr ns), some (.int nb), some (.int nr), some (.lst false (nm.map .str)), some (.lst true (cs.map clD)), k, some (.lst false (sl.map .str)), some (.lst false (fl.map .str)), some (.lst true (bs.map boatD)), mn, dr, tl, rs, cl, m, op, bt]
theorem ix_drop {k : Nat} (h : k < 3) : ∃ j : Int, opMod (.int (k : Int)) (.int 3) = some (.int j) ∧ opIx (.lst true [.int 5, .int 5, .int 12]) (.int j) = some (.int (if k = 2 then 12 else 5)) := by
  have k3 : k = 0 ∨ k = 1 ∨ k = 2 := by omega
  rcases k3 with rfl | rfl | rfl
  · exact ⟨0, mod_pos' (i := 0) (j := 3) (by decide), rfl⟩
  · exact ⟨1, mod_pos' (i := 1) (j := 3) (by decide), rfl⟩
  · exact ⟨2, mod_pos' (i := 2) (j := 3) (by decide), rfl⟩
theorem drop_one {ns : List Int} {kk v w j u : Int} {a b c d e f g h i l m n o p q r t : Option D} (mm : RN.f__law_mixed [.int (cellI ns 2), .int (70 + kk)] = .ok (.int v) []) (j1 : opMod (.int kk) (.int 3) = some (.int j))
    (j2 : opIx (.lst true [.int 5, .int 5, .int 12]) (.int j) = some (.int w)) (qq : opMod (.int v) (.int w) = some (.int u)) :
    lcOne (.nm 5) [5] sYes (s2 opAdd (sC (.int 1)) (s2 opMod (sCallF 2 RN.f__law_mixed (sCons (sCallF 2 f__law_cell_at (sCons (sVar 0) (sCons (sC (.int 2)) sNil))) (sCons (s2 opAdd (sC (.int 70)) (sVarB 5)) sNil))) (sIx (sLst (sCons (sC (.int 5)) (sCons (sC (.int 5)) (sCons (sC (.int 12)) sNil)))) (s2 opMod (sVarB 5) (sC (.int 3))))))
      [some (.scr ns), a, b, c, d, e, f, g, h, i, l, m, n, o, p, q, r] (.int kk) = .ok (some (.int (1 + u))) := by
  have z3 : 3 ≤ sizeLine := by decide
  simp [lcOne, wipeE, Tg.set, cell_2, mm, j1, j2, qq, z3]
theorem drop_rg {n : Nat} (h : n ≤ 3) : opt (rng1 [D.int (n : Int)]) = .ok (ups 0 n) := by rw [rng1_nat (by omega)]; rfl
theorem drop_it {ns : List Int} {nb nr : Int} {nm : List Str} {cs : List ClT} {sl fl : List Str} {bs : List BtT} {k m : Option D} {n : Nat} (hn : n ≤ 3) :
    sI rng1 (sCons (sVarB 9) sNil) (E3 ns nb nr nm cs k sl fl bs (some (.int (n : Int))) none none none none m none none) = .ok (ups 0 n) := by
  have e : (sCons (sVarB 9) sNil) (E3 ns nb nr nm cs k sl fl bs (some (.int (n : Int))) none none none none m none none) = .ok [D.int (n : Int)] := by simp
  rw [sI_ap, e, bind_ok, drop_rg hn]
theorem drop_md (c : Int) {k : Nat} (hk : k < 3) : ∃ v w u : Int, RN.f__law_mixed [.int c, .int (70 + (k : Int))] = .ok (.int v) [] ∧ (w = if k = 2 then 12 else 5) ∧ opMod (.int v) (.int w) = some (.int u) ∧ dropAt c k = 1 + u := by
  refine ⟨_, _, _, RN.mix_eq (n := c) (k := 70 + (k : Int)) (by omega), rfl, mod_pos' (by split <;> decide), ?_⟩
  unfold dropAt
  rfl
theorem drop_lc {ns : List Int} {nb nr : Int} {nm : List Str} {cs : List ClT} {sl fl : List Str} {bs : List BtT} {k m : Option D} {n : Nat} (hn : n ≤ 3) :
    l__law_meeting_11 (E3 ns nb nr nm cs k sl fl bs (some (.int (n : Int))) none none none none m none none) = .ok (.lst true ((List.range n).map fun k => D.int (dropAt (cellI ns 2) k))) := by
  refine lc_up (by omega) (drop_it hn) fun k hk => ?_
  obtain ⟨j, j1, j2⟩ := ix_drop (k := k) (by omega)
  obtain ⟨v, w, u, h1, h2, h3, h4⟩ := drop_md (cellI ns 2) (k := k) (by omega)
  rw [← h2] at j2
  rw [h4]
  exact drop_one (t := none) h1 j1 j2 h3
theorem told_lc {ns : List Int} {nb nr : Int} {nm : List Str} {cs : List ClT} {sl fl : List Str} {bs : List BtT} {k mn dr m : Option D} (hb : bs.length ≤ 100) :
    l__law_meeting_13 (E3 ns nb nr nm cs k sl fl bs mn dr none none none m none none) = .ok (.lst true ((bs.map fun b => b.2.2).map .str)) := by
  refine sLc_ok (ds := bs.map boatD) (by simp [cleanL_of boatD_clean]) (by rw [List.length_map]; unfold sizeLine; omega) ?_
  rw [List.map_map]
  refine lcRun_of fun b hb => ?_
  have e : opIx (boatD b) (.int 2) = some (.str b.2.2) := rfl
  simp [lcOne, wipeE, Tg.set, e]
end RM
namespace RM
open PySem RL L2
abbrev RcT := Str × Str × Int × Int
def raceD (r : RcT) : D := .tup [.str r.1, .str r.2.1, .int r.2.2.1, .int r.2.2.2]
theorem raceD_clean (c : RcT) : (raceD c).clean = true := by simp [raceD, D.clean, cleanL]
theorem raceD_frz (c : RcT) : (raceD c).frz = raceD c := by simp [raceD, D.frz, frzL]
abbrev E4 (ns : List Int) (nb nr : Int) (nm : List Str) (cs : List ClT) (k : Option D) (sl fl : List Str) (bs : List BtT) (mn : Int) (dr : List Int) (tl : List Str) (rs : List RcT) (cl : List Str) (m op : Option D) : RL.Env :=
  [some (.scr ns), some (.int nb), some (.int nr), some (.lst false (nm.map .str)), some (.lst true (cs.map clD)), k, some (.lst false (sl.map .str)), some (.lst false (fl.map .str)), some (.lst true (bs.map boatD)), some (.int mn), some (.lst false (dr.map .int)), some (.lst false (tl.map .str)), some (.lst true (rs.map raceD)), some (.lst false (cl.map .str)), m, op, none]
theorem rc_step {ns : List Int} {nb nr : Int} {nm : List Str} {cs : List ClT} {sl fl : List Str} {bs : List BtT} {mn : Int} {dr : List Int} {tl : List Str} {rs : List RcT} {cl : List Str} {m op : Option D} {k : Nat} (hk : k < cl.length) (hr : rs.length ≤ 100) (hk2 : k ≤ 1000) (ht : 0 < tl.length) :
    ∃ (f : Str) (st di : Int) (m' op' : Option D), f ∈ tl ∧ 0 ≤ st ∧ st ≤ 359000 ∧ 0 ≤ di ∧ di ≤ 9999 ∧
      k__law_meeting_21 (E4 ns nb nr nm cs (some (.int (k : Int))) sl fl bs mn dr tl rs cl m op) = .nx (E4 ns nb nr nm cs (some (.int (k : Int))) sl fl bs mn dr tl (rs ++ [(cl.getD k "", f, st, di)]) cl m' op') := by
  have mm := RN.mix_eq (n := cellI ns 3) (k := 80 + (k : Int)) (by omega)
  generalize RN.mixI (cellI ns 3) (80 + (k : Int)) = v at mm
  have z3 : 3 ≤ sizeLine := by decide
  have z4 : 4 ≤ sizeLine := by decide
  have lt : rs.length < sizeLine := by unfold sizeLine; omega
  have ix := ix_str (o := false) hk
  have q1 := mod_pos' (i := v) (j := 40000) (by decide)
  have q2 := mod_pos' (i := v) (j := 359000) (by decide)
  have q3 := mod_pos' (i := v) (j := 3) (by decide)
  have q4 := fdiv_pos' (i := v) (j := 3) (by decide) (by decide)
  have q5 := mod_pos' (i := v / 3) (j := (tl.length : Int)) (by omega)
  have q6 := fdiv_pos' (i := v) (j := 100) (by decide) (by decide)
  have b1 := RN.mod_in v (b := 40000) (by decide)
  have b2 := RN.mod_in v (b := 359000) (by decide)
  have b3 := RN.mod_in v (b := 3) (by decide)
  obtain ⟨f, f1, f2⟩ := ix_one (f := D.str) (o := false) (xs := tl) (i := v / 3) ht
  generalize v % 40000 = x1 at *
  generalize v % 359000 = x2 at *
  generalize v % 3 = x3 at *
  generalize v / 3 = x4 at *
  generalize x4 % (tl.length : Int) = x5 at *
  generalize v / 100 = x6 at *
  obtain ⟨c, c1, c2⟩ := ix_mem (xs := [D.int 0, .int x1, .int x2]) b3.1 b3.2
  obtain ⟨st, rfl, s1, s2⟩ : ∃ z : Int, c = .int z ∧ 0 ≤ z ∧ z ≤ 359000 := by
    simp only [List.mem_cons, List.not_mem_nil, or_false] at c2
    rcases c2 with rfl | rfl | rfl
    · exact ⟨_, rfl, by omega, by omega⟩
    · exact ⟨_, rfl, by omega, by omega⟩
    · exact ⟨_, rfl, by omega, by omega⟩
  obtain ⟨d, d1, d2⟩ := ix_mem (xs := [D.int 1, .int 300, .int 10000]) b3.1 b3.2
  obtain ⟨w, rfl, w1, w2⟩ : ∃ z : Int, d = .int z ∧ 0 < z ∧ z ≤ 10000 := by
    simp only [List.mem_cons, List.not_mem_nil, or_false] at d2
    rcases d2 with rfl | rfl | rfl
    · exact ⟨_, rfl, by omega, by omega⟩
    · exact ⟨_, rfl, by omega, by omega⟩
    · exact ⟨_, rfl, by omega, by omega⟩
  have q7 := mod_pos' (i := x6) (j := w) w1
  have b7 := RN.mod_in x6 (b := w) w1
  generalize x6 % w = di at *
  have e17 : t__law_meeting_17 (E4 ns nb nr nm cs (some (.int (k : Int))) sl fl bs mn dr tl rs cl m op) = .nx (E4 ns nb nr nm cs (some (.int (k : Int))) sl fl bs mn dr tl rs cl (some (.int v)) op) := by
    simp [t__law_meeting_17, cell_3, mm]
  have e18 : t__law_meeting_18 (E4 ns nb nr nm cs (some (.int (k : Int))) sl fl bs mn dr tl rs cl (some (.int v)) op) = .nx (E4 ns nb nr nm cs (some (.int (k : Int))) sl fl bs mn dr tl rs cl (some (.int v)) (some (.int st))) := by
    simp [t__law_meeting_18, q1, q2, q3, c1, z3]
  have e19 : t__law_meeting_19 (E4 ns nb nr nm cs (some (.int (k : Int))) sl fl bs mn dr tl rs cl (some (.int v)) (some (.int st))) = .nx (E4 ns nb nr nm cs (some (.int (k : Int))) sl fl bs mn dr tl (rs ++ [(cl.getD k "", f, st, di)]) cl (some (.int v)) (some (.int st))) := by
    simp [t__law_meeting_19, ix, q3, q4, q5, q6, f2, d1, q7, z3, z4, lt, raceD]
  exact ⟨f, st, di, _, _, f1, s1, s2, b7.1, by omega, by rw [k__law_meeting_21, sThen_ap, e17, andThen_nx, sThen_ap, e18, andThen_nx, e19]⟩
def RcOk (tl : List Str) (r : RcT) : Prop := r.2.1 ∈ tl ∧ 0 ≤ r.2.2.1 ∧ r.2.2.1 ≤ 359000 ∧ 0 ≤ r.2.2.2 ∧ r.2.2.2 ≤ 9999
theorem rc_loop {ns : List Int} {nb nr : Int} {nm : List Str} {cs : List ClT} {k0 : Option D} {sl fl : List Str} {bs : List BtT} {mn : Int} {dr : List Int} {tl cl : List Str} {m0 : Option D} {n : Nat} (hn : n ≤ cl.length) (hn2 : n ≤ 100) (ht : 0 < tl.length) :
    ∃ (rs : List RcT) (k m op : Option D), forRun (.nm 5) k__law_meeting_21 (ups 0 n) (E4 ns nb nr nm cs k0 sl fl bs mn dr tl [] cl m0 none) = .nx (E4 ns nb nr nm cs k sl fl bs mn dr tl rs cl m op) ∧ rs.map (·.1) = cl.take n ∧ ∀ r ∈ rs, RcOk tl r := by
  obtain ⟨ρ', hf, rs, k, m, op, rfl, h1, h2⟩ := for_up (t := 5) (S := k__law_meeting_21) (fun i ρ => ∃ rs k m op, ρ = E4 ns nb nr nm cs k sl fl bs mn dr tl rs cl m op ∧ rs.map (·.1) = cl.take i ∧ ∀ r ∈ rs, RcOk tl r)
    (n := n) (ρ := E4 ns nb nr nm cs k0 sl fl bs mn dr tl [] cl m0 none) ⟨[], k0, m0, none, rfl, by simp, by simp⟩ (by
      rintro i ρ ⟨rs, k, m, op, rfl, _⟩
      simp) (by
      rintro i ρ hi ⟨rs, k, m, op, rfl, h1, h2⟩
      have rl : rs.length = i := by
        have := congrArg List.length h1
        rw [List.length_map, List.length_take] at this
        omega
      obtain ⟨f, st, di, m', op', g1, g2, g3, g4, g5, g6⟩ := rc_step (ns := ns) (nb := nb) (nr := nr) (nm := nm) (cs := cs) (sl := sl) (fl := fl) (bs := bs) (mn := mn) (dr := dr) (tl := tl) (rs := rs) (cl := cl) (m := m) (op := op) (k := i) (by omega) (by omega) (by omega) ht
      refine ⟨_, g6, _, _, _, _, rfl, ?_, ?_⟩
      · rw [List.map_append, h1, List.take_succ]
        rw [List.getElem?_eq_getElem (by omega)]
        simp [List.getD, List.getElem?_eq_getElem (show i < cl.length by omega)]
      · intro r hr
        rcases List.mem_append.mp hr with hr | hr
        · exact h2 r hr
        · rw [List.mem_singleton.mp hr]; exact ⟨g1, g2, g3, g4, g5⟩)
  exact ⟨rs, k, m, op, hf, h1, h2⟩
end RM
namespace RM
open PySem RL L2
structure Mt where
  cs : List ClT
  bs : List BtT
  ds : List Int
  rs : List RcT
def Mt.D (m : Mt) : D := .tup [.tux (m.cs.map clD), .tup (m.bs.map boatD), .tup (m.ds.map .int), .tup (m.rs.map raceD)]
structure Good (nb nr : Nat) (m : Mt) : Prop where
  cnd : (m.cs.map (·.1)).Nodup
  c0 : 0 < m.cs.length
  c6 : m.cs.length ≤ 6
  cnm : ∀ c ∈ m.cs, RN.Nm c.1
  chc : ∀ c ∈ m.cs, HcOk c.2
  bnd : (m.bs.map (·.1)).Nodup
  b0 : 0 < m.bs.length
  bn : m.bs.length ≤ nb
  bnm : ∀ b ∈ m.bs, RN.Nm b.1
  bcl : ∀ b ∈ m.bs, b.2.1 ∈ m.cs.map (·.1)
  bfl : ∃ fl : List Str, fl.Nodup ∧ fl.length ≤ 3 ∧ (∀ f ∈ fl, RN.Nm f) ∧ ∀ b ∈ m.bs, b.2.2 ∈ fl
  dup : m.ds.Pairwise (· < ·)
  d3 : m.ds.length ≤ 3
  din : ∀ d ∈ m.ds, 1 ≤ d ∧ d ≤ 12
  rnd : (m.rs.map (·.1)).Nodup
  rn : m.rs.length ≤ nr
  rnm : ∀ r ∈ m.rs, RN.Nm r.1
  rok : ∀ r ∈ m.rs, RcOk (m.bs.map (fun b => b.2.2) ++ [("all" : Str)]) r
theorem Good.bfn {nb nr : Nat} {m : Mt} (g : Good nb nr m) {b : BtT} (h : b ∈ m.bs) : RN.Nm b.2.2 := by
  obtain ⟨fl, _, _, h3, h4⟩ := g.bfl
  exact h3 _ (h4 b h)
theorem modN (v : Int) {b : Int} (hb : 0 < b) : ∃ a : Nat, (a : Int) < b ∧ opMod (.int v) (.int b) = some (.int (a : Int)) := by
  obtain ⟨a, ha⟩ := Int.eq_ofNat_of_zero_le (RN.mod_in v hb).1
  exact ⟨a, by have := (RN.mod_in v hb).2; omega, by rw [mod_pos' hb, ha]⟩
theorem rng_add {a : Nat} (h : a ≤ 100) : opt (rng1 [D.int (1 + (a : Int))]) = .ok (ups 0 (a + 1)) := by
  rw [show (1 + (a : Int)) = ((a + 1 : Nat) : Int) by omega, rng1_nat (by omega)]; rfl
theorem rng_nat {a : Nat} (h : a ≤ 100) : opt (rng1 [D.int (a : Int)]) = .ok (ups 0 a) := by
  rw [rng1_nat (by omega)]; rfl
theorem namesK (n : Int) (many : Nat) {k : Int} (hk : k = (many : Int)) (h : many ≤ 34) : ∃ xs : List Str, RN.f__law_names [.int n, .int k] = .ok (.lst true (xs.map .str)) [] ∧ xs.Nodup ∧ xs.length = many ∧ ∀ x ∈ xs, RN.Nm x := by
  subst hk
  exact RN.names_eq h
theorem sortI_len (ns : List Int) : (sortI ns).length ≤ ns.length := by
  have nd : (sortI ns).Nodup := (sortI_up ns).imp fun h => by omega
  exact List.Nodup.length_le_of_subset nd fun k hk => sortI_mem.mp hk
theorem meeting_eq {ns : List Int} {nb nr : Nat} (h0 : 0 < nb) (h1 : nb ≤ 24) (h2 : nr ≤ 12) : ∃ m : Mt, Good nb nr m ∧ f__law_meeting [.scr ns, .int (nb : Int), .int (nr : Int)] = .ok m.D [] := by
  obtain ⟨v1, m1⟩ : ∃ v, RN.f__law_mixed [.int (cellI ns 0), .int 1] = .ok (.int v) [] := ⟨_, RN.mix_eq (by decide)⟩
  obtain ⟨v2, m2⟩ : ∃ v, RN.f__law_mixed [.int (cellI ns 1), .int 2] = .ok (.int v) [] := ⟨_, RN.mix_eq (by decide)⟩
  obtain ⟨v3, m3⟩ : ∃ v, RN.f__law_mixed [.int (cellI ns 2), .int 3] = .ok (.int v) [] := ⟨_, RN.mix_eq (by decide)⟩
  obtain ⟨v4, m4⟩ : ∃ v, RN.f__law_mixed [.int (cellI ns 1), .int 4] = .ok (.int v) [] := ⟨_, RN.mix_eq (by decide)⟩
  obtain ⟨v5, m5⟩ : ∃ v, RN.f__law_mixed [.int (cellI ns 3), .int 5] = .ok (.int v) [] := ⟨_, RN.mix_eq (by decide)⟩
  obtain ⟨v6, m6⟩ : ∃ v, RN.f__law_mixed [.int (cellI ns 3), .int 6] = .ok (.int v) [] := ⟨_, RN.mix_eq (by decide)⟩
  obtain ⟨nm, n1, nm2, nm3, nm4⟩ := namesK v1 6 (k := 6) rfl (by decide)
  obtain ⟨sl, s1, sl2, sl3, sl4⟩ := namesK v2 24 (k := 24) rfl (by decide)
  obtain ⟨fl0, f1, fl2, fl3, fl4⟩ := namesK v3 3 (k := 3) rfl (by decide)
  obtain ⟨cl, l1, cl2, cl3, cl4⟩ := namesK v5 12 (k := 12) rfl (by decide)
  obtain ⟨a0, a0l, q0⟩ := modN (cellI ns 0) (b := 6) (by decide)
  obtain ⟨a2, a2l, q2⟩ := modN (cellI ns 2) (b := 3) (by decide)
  obtain ⟨a4, a4l, q4⟩ := modN v4 (b := (nb : Int)) (by omega)
  obtain ⟨a6, a6l, q6⟩ := modN v6 (b := (nr : Int) + 1) (by omega)
  have qd := fdiv_pos' (i := cellI ns 2) (j := 3) (by decide) (by decide)
  obtain ⟨a3, a3l, q3⟩ := modN (cellI ns 2 / 3) (b := 4) (by decide)
  generalize cellI ns 2 / 3 = d3 at *
  obtain ⟨cs, ck, cf, cc1, cc2⟩ := cl_loop (ns := ns) (nb := nb) (nr := nr) (nm := nm) (n := a0 + 1) (by omega) (by omega)
  have csl : cs.length = a0 + 1 := by
    have := congrArg List.length cc1
    rw [List.length_map, List.length_take] at this
    omega
  have fll : (fl0.take (a2 + 1)).length = a2 + 1 := by rw [List.length_take]; omega
  have fls : opSl (.lst true (fl0.map .str)) none (some (1 + (a2 : Int))) = some (.lst true ((fl0.take (a2 + 1)).map .str)) := by
    rw [show (1 + (a2 : Int)) = ((a2 + 1 : Nat) : Int) by omega, opSl_l (cleanL_strs), cut_0n, List.map_take]
  generalize hfl : fl0.take (a2 + 1) = fl at *
  obtain ⟨bs, bk, bm, bf, bb1, bb2⟩ := bt_loop (ns := ns) (nb := nb) (nr := nr) (nm := nm) (cs := cs) (sl := sl) (fl := fl) (k0 := ck) (n := a4 + 1) (by omega) (by omega) (by omega) (by omega)
  have bsl : bs.length = a4 + 1 := by
    have := congrArg List.length bb1
    rw [List.length_map, List.length_take] at this
    omega
  have dl := drop_lc (ns := ns) (nb := nb) (nr := nr) (nm := nm) (cs := cs) (sl := sl) (fl := fl) (bs := bs) (k := bk) (m := bm) (n := a3) (by omega)
  obtain ⟨dr, hdr⟩ : ∃ dr : List Int, dr = (List.range a3).map (dropAt (cellI ns 2)) := ⟨_, rfl⟩
  have dr2 : ((List.range a3).map fun k => D.int (dropAt (cellI ns 2) k)) = dr.map .int := by rw [hdr, List.map_map]; rfl
  have dr3 : dr.length ≤ 3 := by rw [hdr, List.length_map, List.length_range]; omega
  have dr4 : ∀ d ∈ dr, 1 ≤ d ∧ d ≤ 12 := fun d hd => by
    rw [hdr] at hd
    obtain ⟨k, _, rfl⟩ := List.mem_map.mp hd
    exact dropAt_in _ _
  rw [dr2] at dl
  clear hdr dr2
  have tlc := told_lc (ns := ns) (nb := nb) (nr := nr) (nm := nm) (cs := cs) (sl := sl) (fl := fl) (bs := bs) (k := bk) (m := bm) (mn := some (.int (a3 : Int))) (dr := some (.lst false (dr.map .int))) (by omega)
  obtain ⟨tl, htl⟩ : ∃ tl : List Str, tl = (bs.map fun b => b.2.2) ++ [("all" : Str)] := ⟨_, rfl⟩
  obtain ⟨rs, rk, rm, ro, rf, rr1, rr2⟩ := rc_loop (ns := ns) (nb := nb) (nr := nr) (nm := nm) (cs := cs) (sl := sl) (fl := fl) (bs := bs) (mn := (a3 : Int)) (dr := dr) (tl := tl) (cl := cl) (k0 := bk) (m0 := bm) (n := a6) (by omega) (by omega) (by rw [htl]; simp)
  have tla : opAdd (.lst true ((bs.map fun b => b.2.2).map .str)) (.lst true [.str "all"]) = some (.lst true (tl.map .str)) := by
    rw [opAdd_l cleanL_strs (by simp) (by simp [sizeLine]; omega), htl]
    simp
  refine ⟨⟨cs, bs, sortI dr, rs⟩, ?_, ?_⟩
  · have mem_take : ∀ {xs : List Str} {n : Nat} {x : Str}, x ∈ xs.take n → x ∈ xs := fun h => List.mem_of_mem_take h
    refine ⟨?_, by rw [csl]; omega, by rw [csl]; omega, fun c hc => ?_, cc2, ?_, by rw [bsl]; omega, by rw [bsl]; omega, fun b hb => ?_, fun b hb => (bb2 b hb).1, ⟨fl, ?_, by omega, ?_, fun b hb => (bb2 b hb).2⟩, sortI_up dr, Nat.le_trans (sortI_len dr) dr3, fun d hd => dr4 d (sortI_mem.mp hd), ?_, ?_, fun r hr => ?_, fun r hr => ?_⟩
    · show (cs.map (·.1)).Nodup
      rw [cc1]; exact nm2.sublist (List.take_sublist _ _)
    · exact nm4 _ (mem_take (cc1 ▸ List.mem_map_of_mem hc))
    · show (bs.map (·.1)).Nodup
      rw [bb1]; exact sl2.sublist (List.take_sublist _ _)
    · exact sl4 _ (mem_take (bb1 ▸ List.mem_map_of_mem hb))
    · rw [← hfl]; exact fl2.sublist (List.take_sublist _ _)
    · intro f hf'
      rw [← hfl] at hf'
      exact fl4 _ (mem_take hf')
    · show (rs.map (·.1)).Nodup
      rw [rr1]; exact cl2.sublist (List.take_sublist _ _)
    · have := congrArg List.length rr1
      rw [List.length_map, List.length_take] at this
      show rs.length ≤ nr
      omega
    · exact cl4 _ (mem_take (rr1 ▸ List.mem_map_of_mem hr))
    · rw [← htl]; exact rr2 r hr
  have e0 : t__law_meeting_0 [some (.scr ns), some (.int nb), some (.int nr), none, none, none, none, none, none, none, none, none, none, none, none, none, none] = .nx [some (.scr ns), some (.int nb), some (.int nr), some (.lst false (nm.map .str)), none, none, none, none, none, none, none, none, none, none, none, none, none] := by
    simp [t__law_meeting_0, cell_0, m1, n1]
  have z0 : 0 ≤ sizeLine := by decide
  have e1 : t__law_meeting_1 [some (.scr ns), some (.int nb), some (.int nr), some (.lst false (nm.map .str)), none, none, none, none, none, none, none, none, none, none, none, none, none] = .nx (E1 ns nb nr nm [] none) := by
    simp [t__law_meeting_1, z0]
  have e3 : t__law_meeting_3 (E1 ns nb nr nm [] none) = .nx (E1 ns nb nr nm cs ck) := by
    have e : (sCons (s2 opAdd (sC (.int 1)) (s2 opMod (sCallF 2 f__law_cell_at (sCons (sVar 0) (sCons (sC (.int 0)) sNil))) (sC (.int 6)))) sNil) (E1 ns nb nr nm [] none) = .ok [D.int (1 + (a0 : Int))] := by simp [cell_0, q0]
    rw [t__law_meeting_3, sFor_ap, sI_ap, e, bind_ok, rng_add (by omega), stm_ok]
    exact cf
  have e4 : t__law_meeting_4 (E1 ns nb nr nm cs ck) = .nx [some (.scr ns), some (.int nb), some (.int nr), some (.lst false (nm.map .str)), some (.lst true (cs.map clD)), ck, some (.lst false (sl.map .str)), none, none, none, none, none, none, none, none, none, none] := by
    simp [t__law_meeting_4, cell_1, m2, s1]
  have e5 : t__law_meeting_5 [some (.scr ns), some (.int nb), some (.int nr), some (.lst false (nm.map .str)), some (.lst true (cs.map clD)), ck, some (.lst false (sl.map .str)), none, none, none, none, none, none, none, none, none, none] = .nx [some (.scr ns), some (.int nb), some (.int nr), some (.lst false (nm.map .str)), some (.lst true (cs.map clD)), ck, some (.lst false (sl.map .str)), some (.lst false (fl.map .str)), none, none, none, none, none, none, none, none, none] := by
    simp [t__law_meeting_5, cell_2, m3, f1, q2, fls]
  have e6 : t__law_meeting_6 [some (.scr ns), some (.int nb), some (.int nr), some (.lst false (nm.map .str)), some (.lst true (cs.map clD)), ck, some (.lst false (sl.map .str)), some (.lst false (fl.map .str)), none, none, none, none, none, none, none, none, none] = .nx (E2 ns nb nr nm cs ck sl fl [] none) := by
    simp [t__law_meeting_6, z0]
  have e9 : t__law_meeting_9 (E2 ns nb nr nm cs ck sl fl [] none) = .nx (E2 ns nb nr nm cs bk sl fl bs bm) := by
    have e : (sCons (s2 opAdd (sC (.int 1)) (s2 opMod (sCallF 2 RN.f__law_mixed (sCons (sCallF 2 f__law_cell_at (sCons (sVar 0) (sCons (sC (.int 1)) sNil))) (sCons (sC (.int 4)) sNil))) (sVarB 1))) sNil) (E2 ns nb nr nm cs ck sl fl [] none) = .ok [D.int (1 + (a4 : Int))] := by simp [cell_1, m4, q4]
    rw [t__law_meeting_9, sFor_ap, sI_ap, e, bind_ok, rng_add (by omega), stm_ok]
    exact bf
  have e10 : t__law_meeting_10 (E2 ns nb nr nm cs bk sl fl bs bm) = .nx (E3 ns nb nr nm cs bk sl fl bs (some (.int (a3 : Int))) none none none none bm none none) := by
    simp [t__law_meeting_10, cell_2, qd, q3]
  have e12 : t__law_meeting_12 (E3 ns nb nr nm cs bk sl fl bs (some (.int (a3 : Int))) none none none none bm none none) = .nx (E3 ns nb nr nm cs bk sl fl bs (some (.int (a3 : Int))) (some (.lst false (dr.map .int))) none none none bm none none) := by
    rw [t__law_meeting_12, sAsg_ap, dl]
    simp
  have e14 : t__law_meeting_14 (E3 ns nb nr nm cs bk sl fl bs (some (.int (a3 : Int))) (some (.lst false (dr.map .int))) none none none bm none none) = .nx (E3 ns nb nr nm cs bk sl fl bs (some (.int (a3 : Int))) (some (.lst false (dr.map .int))) (some (.lst false (tl.map .str))) none none bm none none) := by
    have z1 : 1 ≤ sizeLine := by decide
    rw [t__law_meeting_14, sAsg_ap, s2_ap, tlc]
    simp only [bind_ok, sLst_ap, sCons_ap, sC_ap, sNil_ap, List.length_cons, List.length_nil, Nat.zero_add, z1, if_true, tla, opt_some, stm_ok]
    simp
  have e15 : t__law_meeting_15 (E3 ns nb nr nm cs bk sl fl bs (some (.int (a3 : Int))) (some (.lst false (dr.map .int))) (some (.lst false (tl.map .str))) none none bm none none) = .nx (E3 ns nb nr nm cs bk sl fl bs (some (.int (a3 : Int))) (some (.lst false (dr.map .int))) (some (.lst false (tl.map .str))) (some (.lst true [])) none bm none none) := by
    simp [t__law_meeting_15, z0]
  have e16 : t__law_meeting_16 (E3 ns nb nr nm cs bk sl fl bs (some (.int (a3 : Int))) (some (.lst false (dr.map .int))) (some (.lst false (tl.map .str))) (some (.lst true [])) none bm none none) = .nx (E4 ns nb nr nm cs bk sl fl bs a3 dr tl [] cl bm none) := by
    simp [t__law_meeting_16, cell_3, m5, l1]
  have e20 : t__law_meeting_20 (E4 ns nb nr nm cs bk sl fl bs a3 dr tl [] cl bm none) = .nx (E4 ns nb nr nm cs rk sl fl bs a3 dr tl rs cl rm ro) := by
    have e : (sCons (s2 opMod (sCallF 2 RN.f__law_mixed (sCons (sCallF 2 f__law_cell_at (sCons (sVar 0) (sCons (sC (.int 3)) sNil))) (sCons (sC (.int 6)) sNil))) (s2 opAdd (sVarB 2) (sC (.int 1)))) sNil) (E4 ns nb nr nm cs bk sl fl bs a3 dr tl [] cl bm none) = .ok [D.int (a6 : Int)] := by simp [cell_3, m6, q6]
    rw [t__law_meeting_20, sFor_ap, sI_ap, e, bind_ok, rng_nat (by omega), stm_ok]
    exact rf
  have e21 : t__law_meeting_21 (E4 ns nb nr nm cs rk sl fl bs a3 dr tl rs cl rm ro) = .rt (Mt.D ⟨cs, bs, sortI dr, rs⟩) (E4 ns nb nr nm cs rk sl fl bs a3 dr tl rs cl rm ro) := by
    have z4 : 4 ≤ sizeLine := by decide
    have c1 := cleanL_of clD_clean cs
    have c2 := cleanL_of boatD_clean bs
    have c3 := cleanL_of raceD_clean rs
    have ss : fSortSet (.lst false (dr.map .int)) = some (.lst true ((sortI dr).map .int)) := by
      simp only [fSortSet, intsD_map, Option.bind_some]
      simp; omega
    simp [t__law_meeting_21, fTuple, fTux, c1, c2, c3, ss, z4, Mt.D]
  rw [f__law_meeting, runDef_ap]
  unfold b__law_meeting
  rw [sThen_ap, show entry 17 [D.scr ns, .int nb, .int nr] = [some (.scr ns), some (.int nb), some (.int nr), none, none, none, none, none, none, none, none, none, none, none, none, none, none] from rfl, e0, andThen_nx, sThen_ap, e1, andThen_nx, sThen_ap, e3, andThen_nx, sThen_ap, e4, andThen_nx, sThen_ap, e5, andThen_nx, sThen_ap, e6, andThen_nx, sThen_ap, e9, andThen_nx, sThen_ap, e10, andThen_nx, sThen_ap, e12, andThen_nx, sThen_ap, e14, andThen_nx, sThen_ap, e15, andThen_nx, sThen_ap, e16, andThen_nx, sThen_ap, e20, andThen_nx, e21]
  rfl
end RM
namespace RG
open PySem RL
open RH (f_handicap_of)
abbrev cs_crews : List Str := ["Meeting"]
abbrev cs_kinds : List Str := ["Meeting"]
abbrev cs_limits : List Str := ["Meeting"]
abbrev cs_runs : List Str := ["Meeting"]
def t_is_in_0 : RL.Env → SRes := (sRet (sAnd (s1 (fIsTy "str") (sVarB 0)) (s2 oIn (sVarB 0) (sVarB 1))))
def b_is_in : RL.Env → SRes := t_is_in_0
def f_is_in : List D → FR := runDef 2 [] b_is_in
def l_Meeting_fleets_0 : RL.Env → Res D := (sLc (sVals (sCl (sFld cs_crews "crews" (sVarB 0)))) (.nm 1) [1] sYes (sTup (sCons (sCl (sIx (sVarB 1) (sC (.int 2)))) (sCons (sC (.bl true)) sNil))))
def t_Meeting_fleets_1 : RL.Env → SRes := (sRet (sCall (on1 fListX) (sCons (s1 fDict l_Meeting_fleets_0) sNil)))
def b_Meeting_fleets : RL.Env → SRes := t_Meeting_fleets_1
def f_Meeting_fleets : List D → FR := runDef 2 [] b_Meeting_fleets
def t_Meeting_races_0 : RL.Env → SRes := (sRet (sCall (on1 fListX) (sCons (sFld cs_runs "runs" (sVarB 0)) sNil)))
def b_Meeting_races : RL.Env → SRes := t_Meeting_races_0
def f_Meeting_races : List D → FR := runDef 1 [] b_Meeting_races
def t_Meeting_race_0 : RL.Env → SRes := (sIfS (sNot (sTest (sCallF 2 f_is_in (sCons (sVar 1) (sCons (sCl (sFld cs_runs "runs" (sVarB 0))) sNil))))) (sRaise "NoName") sNext)
def t_Meeting_race_1 : RL.Env → SRes := (sRet (sCl (sIx (sFld cs_runs "runs" (sVarB 0)) (sVarB 1))))
def b_Meeting_race : RL.Env → SRes := (sThen t_Meeting_race_0
    t_Meeting_race_1)
def f_Meeting_race : List D → FR := runDef 2 [] b_Meeting_race
abbrev tab_fleets : List (Str × (List D → FR)) := [("Meeting", f_Meeting_fleets)]
def t_Meeting_sails_of_0 : RL.Env → SRes := (sIfS (sNot (sTest (sCallF 2 f_is_in (sCons (sVar 1) (sCons (s2 opAdd (sLst (sCons (sC (.str "all")) sNil)) (sMeth "fleets" tab_fleets 1 (sVar 0) sNil)) sNil))))) (sRaise "NoName") sNext)
def l_Meeting_sails_of_1 : RL.Env → Res D := (sLc (sVals (sCl (sFld cs_crews "crews" (sVarB 0)))) (.tp [(.nm 2), (.nm 3), (.nm 4)]) [2, 3, 4] (sTest (s2 oIn (sVarB 1) (sTup (sCons (sC (.str "all")) (sCons (sVar 4) sNil))))) (sVar 2))
def t_Meeting_sails_of_2 : RL.Env → SRes := (sRet l_Meeting_sails_of_1)
def b_Meeting_sails_of : RL.Env → SRes := (sThen t_Meeting_sails_of_0
    t_Meeting_sails_of_2)
def f_Meeting_sails_of : List D → FR := runDef 5 [] b_Meeting_sails_of
abbrev tab_sails_of : List (Str × (List D → FR)) := [("Meeting", f_Meeting_sails_of)]
abbrev tab_race : List (Str × (List D → FR)) := [("Meeting", f_Meeting_race)]
def t_Meeting_entered_0 : RL.Env → SRes := (sRet (sMeth "sails_of" tab_sails_of 2 (sVar 0) (sCons (sIx (sMeth "race" tab_race 2 (sVar 0) (sCons (sVar 1) sNil)) (sC (.int 1))) sNil)))
def b_Meeting_entered : RL.Env → SRes := t_Meeting_entered_0
def f_Meeting_entered : List D → FR := runDef 2 [] b_Meeting_entered
def t_Meeting___init___0 : RL.Env → SRes := (sAsg (.tp [(.nm 2), (.nm 3), (.nm 4), (.nm 5)]) true (sVar 1))
def l_Meeting___init___1 : RL.Env → Res D := (sLc (sIter (sTo D.tp1 (sVar 2))) (.tp [(.nm 8), (.nm 9)]) [8, 9] sYes (sTup (sCons (sVar 8) (sCons (sCallF 1 f_handicap_of (sCons (sVar 9) sNil)) sNil))))
def t_Meeting___init___2 : RL.Env → SRes := (sSetF cs_kinds "kinds" true (plVar 0) (s1 fDict l_Meeting___init___1))
def l_Meeting___init___3 : RL.Env → Res D := (sLc (sIter (sVar 3)) (.nm 6) [6] sYes (sTup (sCons (sCl (sIx (sVarB 6) (sC (.int 0)))) (sCons (sVar 6) sNil))))
def t_Meeting___init___4 : RL.Env → SRes := (sSetF cs_crews "crews" true (plVar 0) (s1 fDict l_Meeting___init___3))
def t_Meeting___init___5 : RL.Env → SRes := (sSetF cs_limits "limits" true (plVar 0) (sCall (on1 fTuple) (sCons (sVarB 4) sNil)))
def l_Meeting___init___6 : RL.Env → Res D := (sLc (sIter (sVar 5)) (.nm 7) [7] sYes (sTup (sCons (sCl (sIx (sVarB 7) (sC (.int 0)))) (sCons (sVar 7) sNil))))
def t_Meeting___init___7 : RL.Env → SRes := (sSetF cs_runs "runs" true (plVar 0) (s1 fDict l_Meeting___init___6))
def b_Meeting___init__ : RL.Env → SRes := (sThen t_Meeting___init___0
    (sThen t_Meeting___init___2
    (sThen t_Meeting___init___4
    (sThen t_Meeting___init___5
    t_Meeting___init___7))))
def f_Meeting___init__ : List D → FR := runDef 10 [0] b_Meeting___init__
def t_meeting_of_0 : RL.Env → SRes := (sRet (sMake "Meeting" 2 f_Meeting___init__ (sCons (sVar 0) sNil)))
def b_meeting_of : RL.Env → SRes := t_meeting_of_0
def f_meeting_of : List D → FR := runDef 1 [] b_meeting_of
end RG
namespace RG
open PySem RL RM L2
abbrev fs4 : List Str := ["kinds", "crews", "limits", "runs"]
def objO (o : Bool) (m : Mt) : D := .obj o "Meeting" fs4 [dT false (fun c : ClT => c.1) (fun c => c.2.obj false) m.cs, dT false (fun b : BtT => b.1) boatD m.bs, .tup (m.ds.map .int), dT false (fun r : RcT => r.1) raceD m.rs]
abbrev obj (m : Mt) : D := objO false m
theorem hobj_clean (c : ClT) : ((fun c : ClT => c.2.obj false) c).clean = true := by simp
theorem kinds_clean {cs : List ClT} : (dT false (fun c : ClT => c.1) (fun c => c.2.obj false) cs).clean = true := dT_clean fun c _ => hobj_clean c
theorem crews_clean {bs : List BtT} : (dT false (fun b : BtT => b.1) boatD bs).clean = true := dT_clean fun c _ => boatD_clean c
theorem runs_clean {rs : List RcT} : (dT false (fun r : RcT => r.1) raceD rs).clean = true := dT_clean fun c _ => raceD_clean c
@[simp] theorem obj_clean {m : Mt} : (obj m).clean = true := by
  simp [obj, objO, D.clean, kinds_clean, crews_clean, runs_clean]
@[simp] theorem obj_frz {o : Bool} {m : Mt} : (objO o m).frz = obj m := by
  simp [obj, objO, D.frz, dT_frz, boatD_frz, raceD_frz]
section
variable {o : Bool} {m : Mt}
theorem g_crews : getF cs_crews "crews" (objO o m) = some (dT false (fun b : BtT => b.1) boatD m.bs) := by
  have : ixOf fs4 ("crews" : Str) = some 1 := by decide +kernel
  simp [getF, objO, this]
theorem g_runs : getF cs_runs "runs" (objO o m) = some (dT false (fun r : RcT => r.1) raceD m.rs) := by
  have : ixOf fs4 ("runs" : Str) = some 3 := by decide +kernel
  simp [getF, objO, this]
end
@[simp] theorem mtD_clean {m : Mt} : m.D.clean = true := by
  simp [Mt.D, cleanL_of clD_clean, cleanL_of boatD_clean, cleanL_of raceD_clean]
@[simp] theorem mtD_frz {m : Mt} : m.D.frz = m.D := by
  simp [Mt.D, frzL_of clD_frz, frzL_of boatD_frz, frzL_of raceD_frz]
theorem of_eq {m : Mt} {nb nr : Nat} (g : Good nb nr m) (hb : nb ≤ 100) (hr : nr ≤ 100) : f_meeting_of [m.D] = .ok (objO true m) [] := by
  have s0 : ∀ a : D, setF cs_kinds "kinds" a (.obj true "Meeting" [] []) = some (.obj true "Meeting" ["kinds"] [a]) := fun a => rfl
  have s1 : ∀ a b : D, setF cs_crews "crews" b (.obj true "Meeting" ["kinds"] [a]) = some (.obj true "Meeting" ["kinds", "crews"] [a, b]) := fun a b => rfl
  have s2 : ∀ a b c : D, setF cs_limits "limits" c (.obj true "Meeting" ["kinds", "crews"] [a, b]) = some (.obj true "Meeting" ["kinds", "crews", "limits"] [a, b, c]) := fun a b c => rfl
  have s3 : ∀ a b c d : D, setF cs_runs "runs" d (.obj true "Meeting" ["kinds", "crews", "limits"] [a, b, c]) = some (.obj true "Meeting" ["kinds", "crews", "limits", "runs"] [a, b, c, d]) := fun a b c d => rfl
  have h2 : 2 ≤ sizeLine := by decide
  have l1 : ∀ a : D, l_Meeting___init___1 [some a, some m.D, some (.tux (m.cs.map clD)), some (.tup (m.bs.map boatD)), some (.tup (m.ds.map .int)), some (.tup (m.rs.map raceD)), none, none, none, none] = .ok (.lst true (m.cs.map fun c => .tup [.str c.1, c.2.obj true])) := fun a => by
    refine lc_map (e := clD) (by have := g.c6; omega) (by simp [cleanL_of clD_clean]) fun c hc => ?_
    have h := RH.of_eq c.2
    simp [lcOne, wipeE, clD, h, h2]
  have l3 : ∀ a : D, l_Meeting___init___3 [some a, some m.D, some (.tux (m.cs.map clD)), some (.tup (m.bs.map boatD)), some (.tup (m.ds.map .int)), some (.tup (m.rs.map raceD)), none, none, none, none] = .ok (.lst true (m.bs.map fun b => .tup [.str b.1, boatD b])) := fun a => by
    refine lc_map (e := boatD) (by have := g.bn; omega) (by simp [cleanL_of boatD_clean]) fun c hc => ?_
    simp [lcOne, wipeE, boatD, h2]
  have l6 : ∀ a : D, l_Meeting___init___6 [some a, some m.D, some (.tux (m.cs.map clD)), some (.tup (m.bs.map boatD)), some (.tup (m.ds.map .int)), some (.tup (m.rs.map raceD)), none, none, none, none] = .ok (.lst true (m.rs.map fun b => .tup [.str b.1, raceD b])) := fun a => by
    refine lc_map (e := raceD) (by have := g.rn; omega) (by simp [cleanL_of raceD_clean]) fun c hc => ?_
    simp [lcOne, wipeE, raceD, h2]
  have d1 := dict_T (o := true) (v := fun c : ClT => c.2.obj true) g.cnd
  have d3 := dict_T (o := true) (v := boatD) g.bnd
  have d6 := dict_T (o := true) (v := raceD) g.rnd
  have e0 : t_Meeting___init___0 [some (.obj true "Meeting" [] []), some m.D, none, none, none, none, none, none, none, none] = .nx [some (.obj true "Meeting" [] []), some m.D, some (.tux (m.cs.map clD)), some (.tup (m.bs.map boatD)), some (.tup (m.ds.map .int)), some (.tup (m.rs.map raceD)), none, none, none, none] := by
    simp only [t_Meeting___init___0, sAsg_ap]
    rw [sVar_ap (d := m.D) rfl, if_pos mtD_clean, stm_ok, if_pos trivial, mtD_frz]
    simp [Mt.D]
  have i1 : f_Meeting___init__ [.obj true "Meeting" [] [], m.D] = .ok .non [objO true m] := by
    rw [f_Meeting___init__, runDef_ap]
    unfold b_Meeting___init__
    rw [sThen_ap, show entry 10 [D.obj true "Meeting" [] [], m.D] = [some (.obj true "Meeting" [] []), some m.D, none, none, none, none, none, none, none, none] from rfl, e0, andThen_nx]
    simp [t_Meeting___init___2, t_Meeting___init___4, t_Meeting___init___5, t_Meeting___init___7, l1, l3, l6, d1, d3, d6, s0, s1, s2, s3, dT_frz, boatD_frz, raceD_frz, fTuple]
    rfl
  rw [f_meeting_of, runDef_ap]
  simp [b_meeting_of, t_meeting_of_0, entry, mkRes, i1]
def isIn (d : D) (xs : List Str) : Bool := match d with
  | .str s => decide (s ∈ xs)
  | _ => false
theorem isTy_str {d : D} (h : (tyName d).isSome = true) : fIsTy "str" d = some (.bl (match d with | .str _ => true | _ => false)) := by
  cases d <;> simp [tyName] at h <;> simp [fIsTy, tyName] <;> decide +kernel
theorem is_in_T {α : Type} {k : α → Str} {v : α → D} {xs : List α} {o : Bool} {d : D} (h : (tyName d).isSome = true) : f_is_in [d, dT o k v xs] = .ok (.bl (isIn d (xs.map k))) [] := by
  rw [f_is_in, runDef_ap]
  have t := isTy_str h
  cases d with
  | str s => simp [b_is_in, t_is_in_0, entry, t, in_T, isIn]
  | _ => first | (simp [b_is_in, t_is_in_0, entry, t, isIn]; done) | simp [tyName] at h
theorem is_in_L {xs : List Str} {o : Bool} {d : D} (h : (tyName d).isSome = true) : f_is_in [d, .lst o (xs.map .str)] = .ok (.bl (isIn d xs)) [] := by
  rw [f_is_in, runDef_ap]
  have t := isTy_str h
  cases d with
  | str s => simp [b_is_in, t_is_in_0, entry, t, in_strs, isIn]
  | _ => first | (simp [b_is_in, t_is_in_0, entry, t, isIn]; done) | simp [tyName] at h
section
variable {m : Mt} {nb nr : Nat}
theorem races_eq : f_Meeting_races [obj m] = .ok (.lst true (m.rs.map fun b => .str b.1)) [] := by
  rw [f_Meeting_races, runDef_ap]
  simp [b_Meeting_races, t_Meeting_races_0, entry, g_runs, list_T]
def fleets (m : Mt) : List Str := nub (m.bs.map fun b => b.2.2)
theorem fleets_eq (hb : m.bs.length ≤ 10000) : f_Meeting_fleets [obj m] = .ok (.lst true ((fleets m).map .str)) [] := by
  have h2 : 2 ≤ sizeLine := by decide
  have l0 : l_Meeting_fleets_0 [some (obj m), none] = .ok (.lst true ((m.bs.map fun b => b.2.2).map fun x => .tup [.str x, .bl true])) := by
    rw [List.map_map]
    refine lc_map (e := boatD) hb (by simp [g_crews, crews_clean, vals_T (v := boatD) fun c _ => boatD_clean c]) fun b _ => ?_
    simp [lcOne, wipeE, boatD, h2]
  rw [f_Meeting_fleets, runDef_ap]
  simp only [b_Meeting_fleets, t_Meeting_fleets_1, entry, sRet_ap, sCall_ap, sCons_ap, s1_ap, List.map_cons, List.map_nil, List.length_cons, List.length_nil, List.replicate, List.cons_append, List.nil_append, l0, bind_ok, dict_nub, opt_some, sNil_ap, on1_ap, list_T, stm_ok, endF_rt0]
  rfl
theorem race_eq (g : Good nb nr m) {r : RcT} (h : r ∈ m.rs) : f_Meeting_race [obj m, .str r.1] = .ok (raceD r) [] := by
  have i := is_in_T (k := fun r : RcT => r.1) (v := raceD) (xs := m.rs) (o := false) (d := .str r.1) rfl
  have ii : isIn (.str r.1) (m.rs.map fun r => r.1) = true := by simp [isIn]; exact ⟨_, _, _, h⟩
  have x := ix_T (o := false) (v := raceD) h g.rnd
  have x2 := dT_frz_same (o := false) (k := fun r : RcT => r.1) (v := raceD) (xs := m.rs) fun r _ => raceD_frz r
  rw [f_Meeting_race, runDef_ap]
  simp [b_Meeting_race, t_Meeting_race_0, t_Meeting_race_1, entry, g_runs, i, ii, x, x2, raceD_clean, runs_clean]
theorem race_m : ("race" : Str) ∉ fs4 := by decide +kernel
theorem fleets_m : ("fleets" : Str) ∉ fs4 := by decide +kernel
theorem sails_of_m : ("sails_of" : Str) ∉ fs4 := by decide +kernel
theorem meth1 {x : Str} {φ : List D → FR} {n : Nat} {o : Bool} {So : RL.Env → Res D} {Ss : RL.Env → Res (List D)} {ρ : RL.Env} {ds : List D} (hx : x ∉ fs4) (ho : So ρ = .ok (objO o m)) (ha : Ss ρ = .ok ds) (hn : ds.length + 1 = n) : sMeth x [("Meeting", φ)] n So Ss ρ = (φ (obj m :: frzL ds)).res := by
  have t : tabGo [(("Meeting" : Str), φ)] "Meeting" = some φ := by simp [tabGo]
  have e : (objO o m).frz = obj m := obj_frz
  rw [sMeth_ap, ho, bind_ok]
  simp only [objO] at e
  simp only [objO, hx, not_false_eq_true, if_true, t, ha, bind_ok, hn, frzL_cons, e]
abbrev wAll : Str := "all"
def sailsOf (m : Mt) (f : Str) : List BtT := m.bs.filter fun b => decide (f = wAll) || decide (f = b.2.2)
theorem sails_of_eq (hb : m.bs.length ≤ 10000) {f : Str} (h : f = wAll ∨ f ∈ fleets m) : f_Meeting_sails_of [obj m, .str f] = .ok (.lst true ((sailsOf m f).map fun b => .str b.1)) [] := by
  have h2 : 2 ≤ sizeLine := by decide
  have h1 : 1 ≤ sizeLine := by decide
  have e : sMeth "fleets" tab_fleets 1 (sVar 0) sNil [some (obj m), some (.str f), none, none, none] = .ok (.lst true ((fleets m).map .str)) := by
    refine (meth1 (o := false) (m := m) (ds := []) fleets_m (by simp) (by simp) rfl).trans ?_
    simp [fleets_eq hb]
  have fl : (fleets m).length ≤ 10000 := Nat.le_trans nubA_len (by simpa using hb)
  have ap : opAdd (.lst true [.str wAll]) (.lst true ((fleets m).map .str)) = some (.lst true ((wAll :: fleets m).map .str)) := by
    rw [opAdd_l (by simp) cleanL_strs (by simp [sizeLine]; omega)]
    rfl
  have i := is_in_L (xs := wAll :: fleets m) (o := false) (d := .str f) rfl
  have ii : isIn (.str f) (wAll :: fleets m) = true := by simpa [isIn] using h
  rw [ii] at i
  have l1 : l_Meeting_sails_of_1 [some (obj m), some (.str f), none, none, none] = .ok (.lst true ((sailsOf m f).map fun b => .str b.1)) := by
    refine lc_fl (e := boatD) hb (by simp [g_crews, crews_clean, vals_T (v := boatD) fun c _ => boatD_clean c]) fun b _ => ?_
    simp only [lcOne, wipeE, boatD, List.set, tg_tp]
    simp [h2, in_two]
    split <;> simp
  rw [f_Meeting_sails_of, runDef_ap, show entry 5 [obj m, .str f] = [some (obj m), some (.str f), none, none, none] from rfl]
  simp [b_Meeting_sails_of, t_Meeting_sails_of_0, t_Meeting_sails_of_2, e, ap, i, h1, l1, -sMeth_ap, -List.map_cons]
theorem fleet_told (g : Good nb nr m) {r : RcT} (h : r ∈ m.rs) : r.2.1 = wAll ∨ r.2.1 ∈ fleets m := by
  have := (g.rok r h).1
  rcases List.mem_append.mp this with z | z
  · exact .inr (nubA_mem.mpr (.inr z))
  · exact .inl (List.mem_singleton.mp z)
theorem entered_eq (g : Good nb nr m) (hb : nb ≤ 10000) {r : RcT} (h : r ∈ m.rs) : f_Meeting_entered [obj m, .str r.1] = .ok (.lst true ((sailsOf m r.2.1).map fun b => .str b.1)) [] := by
  have e : sMeth "race" tab_race 2 (sVar 0) (sCons (sVar 1) sNil) [some (obj m), some (.str r.1)] = .ok (raceD r) := by
    refine (meth1 (o := false) (m := m) (ds := [.str r.1]) race_m (by simp) (by simp) rfl).trans ?_
    simp [race_eq g h]
  have ix : opIx (raceD r) (.int 1) = some (.str r.2.1) := rfl
  have hb : m.bs.length ≤ 10000 := Nat.le_trans g.bn hb
  have e2 : sMeth "sails_of" tab_sails_of 2 (sVar 0) (sCons (sIx (sMeth "race" tab_race 2 (sVar 0) (sCons (sVar 1) sNil)) (sC (.int 1))) sNil) [some (obj m), some (.str r.1)] = .ok (.lst true ((sailsOf m r.2.1).map fun b => .str b.1)) := by
    refine (meth1 (o := false) (m := m) (ds := [.str r.2.1]) sails_of_m (by simp) (by simp [e, ix, -sMeth_ap]) rfl).trans ?_
    simp [sails_of_eq hb (fleet_told g h)]
  rw [f_Meeting_entered, runDef_ap]
  simp [b_Meeting_entered, t_Meeting_entered_0, entry, e2, -sMeth_ap]
end
end RG
namespace RL
open PySem PySem.Spec PyProof.Rows L2
theorem costL_le {c : Nat} : ∀ {ds : List D}, (∀ d ∈ ds, costD d ≤ c) → costL ds ≤ ds.length * (c + 2)
  | [], _ => by simp [costL]
  | d :: ds, h => by
    have h1 := h d List.mem_cons_self
    have h2 := costL_le fun e he => h e (List.mem_cons_of_mem d he)
    rw [costL, List.length_cons, Nat.add_mul]
    omega
def Sh (n c : Nat) (d : D) : Prop := repN n d = true ∧ costD d ≤ c
theorem Sh.le {n c c' : Nat} {d : D} (h : Sh n c d) (l : c ≤ c') : Sh n c' d := ⟨h.1, Nat.le_trans h.2 l⟩
theorem sh_int {n : Nat} {i : Int} (h : 0 ≤ i) (h2 : i ≤ 1000000) : Sh n 1910 (.int i) := by
  have b : Bd 20 i := by unfold Bd; omega
  have s := b.sml (by decide)
  refine ⟨?_, by simp [costD]⟩
  cases n <;> simp [repN, s]
theorem sh_str {n c : Nat} {x : Str} (h : PyData.strOk x = true) (l : x.length ≤ c) : Sh n (10 * c + 2) (.str x) := by
  refine ⟨?_, by simp only [costD]; omega⟩
  cases n <;> simp [repN, h]
theorem sh_tup {n c k : Nat} {ds : List D} (h : ∀ d ∈ ds, Sh n c d) (l : ds.length ≤ k) : Sh (n + 1) (k * (c + 2) + 4) (.tup ds) := by
  refine ⟨?_, ?_⟩
  · simp only [repN, List.all_eq_true]
    exact fun d hd => (h d hd).1
  · have := costL_le fun d hd => (h d hd).2
    have := Nat.mul_le_mul_right (c + 2) l
    simp only [costD]
    omega
theorem Sh.rep {c : Nat} {d : D} (h : Sh 50 c d) (l : c ≤ 10000000) : fRepr [d] = some (.str d.py.shown) := by
  refine fRepr_ok ?_
  unfold repOk
  rw [h.1, Bool.true_and]
  exact decide_eq_true (by have := h.2; unfold sizeLine; omega)
structure Nx (x : Str) : Prop where
  ok : PyData.strOk x = true
  hi : x.length ≤ 6
theorem nx_of {x : Str} (h : RN.Nm x) : Nx x := by
  refine ⟨?_, h.hi⟩
  unfold PyData.strOk
  rw [Array.all_eq_true']
  intro c hc
  have hm : c ∈ RN.signs := h.sg c (Array.mem_toList_iff.mpr hc)
  have : ∀ c ∈ RN.signs, decide (c < 0x110000) = true := by decide
  exact this c hm
theorem nx_all : Nx "all" := ⟨by decide +kernel, by decide +kernel⟩
theorem Nx.sh {n : Nat} {x : Str} (h : Nx x) : Sh n 62 (.str x) := sh_str h.ok h.hi
end RL
namespace RG
open PySem RL RM L2
section
variable {m : Mt} {nb nr : Nat}
theorem nx_fleet (g : Good nb nr m) {r : RcT} (h : r ∈ m.rs) : Nx r.2.1 := by
  rcases List.mem_append.mp (g.rok r h).1 with z | z
  · obtain ⟨b, h1, h2⟩ := List.mem_map.mp z
    rw [← h2]; exact nx_of (g.bfn h1)
  · rw [List.mem_singleton.mp z]; exact nx_all
end
end RG
namespace RQ
open PySem RL
open RN (f__law_mixed)
def l__law_entered_0 : RL.Env → Res D := (sLc (sIter (sCl (sIx (sVarB 0) (sC (.int 1))))) (.nm 2) [2] (sTest (s2 oIn (sIx (sVarB 1) (sC (.int 1))) (sTup (sCons (sC (.str "all")) (sCons (sCl (sIx (sVarB 2) (sC (.int 2)))) sNil))))) (sCl (sIx (sVarB 2) (sC (.int 0)))))
def b__law_entered : RL.Env → SRes := (sRet l__law_entered_0)
def f__law_entered : List D → FR := runDef 3 [] b__law_entered
def t__law_paper_0 : RL.Env → SRes := (sAsg (.nm 3) true (sCl (sIx (sVarB 1) (sC (.int 3)))))
def t__law_paper_1 : RL.Env → SRes := (sAsg (.nm 4) true (s2 opMod (sCallF 2 f__law_mixed (sCons (sVar 0) (sCons (sC (.int 100)) sNil))) (sC (.int 16))))
def t__law_paper_2 : RL.Env → SRes := (sRet (sTup (sCons (sVar 2) (sCons (sC (.str "void")) (sCons (s2 opAdd (sC (.int 1)) (s2 opMod (sCallF 2 f__law_mixed (sCons (sVar 0) (sCons (sC (.int 101)) sNil))) (sCall (on2 fMax2) (sCons (sC (.int 1)) (sCons (s2 opSub (sVarB 2) (sC (.int 1))) sNil))))) sNil)))))
def t__law_paper_3 : RL.Env → SRes := (sIfS (sOrT (sTest (s2 opEq (sVarB 4) (sC (.int 0)))) (sTest (s2 opEq (sVarB 3) (sTup sNil)))) t__law_paper_2 sNext)
def t__law_paper_4 : RL.Env → SRes := (sAsg (.nm 5) true (sCl (sIx (sVarB 3) (s2 opMod (sCallF 2 f__law_mixed (sCons (sVar 0) (sCons (sC (.int 102)) sNil))) (sCall (on1 fLenX) (sCons (sVarB 3) sNil))))))
def t__law_paper_5 : RL.Env → SRes := (sRet (sTup (sCons (sVar 2) (sCons (sC (.str "off")) (sCons (sCl (sIx (sVarB 5) (sC (.int 0)))) sNil)))))
def t__law_paper_6 : RL.Env → SRes := (sIfS (sAndT (sTest (s2 opEq (sVarB 4) (sC (.int 1)))) (sTest (s2 opEq (s2 opMod (sCallF 2 f__law_mixed (sCons (sVar 0) (sCons (sC (.int 103)) sNil))) (sC (.int 3))) (sC (.int 0))))) t__law_paper_5 sNext)
def t__law_paper_7 : RL.Env → SRes := (sAsg (.nm 6) true (sCallF 2 f__law_entered (sCons (sVar 1) (sCons (sVar 5) sNil))))
def t__law_paper_8 : RL.Env → SRes := (sAsg (.nm 7) true (sCl (sIx (sVarB 6) (s2 opMod (sCallF 2 f__law_mixed (sCons (sVar 0) (sCons (sC (.int 104)) sNil))) (sCall (on1 fLenX) (sCons (sVarB 6) sNil))))))
def t__law_paper_9 : RL.Env → SRes := (sRet (sTup (sCons (sVar 2) (sCons (sC (.str "cost")) (sCons (sCl (sIx (sVarB 5) (sC (.int 0)))) (sCons (sVar 7) (sCons (s2 opAdd (sC (.int 1)) (s2 opMod (sCallF 2 f__law_mixed (sCons (sVar 0) (sCons (sC (.int 105)) sNil))) (sC (.int 20)))) sNil)))))))
def t__law_paper_10 : RL.Env → SRes := (sIfS (sTest (s2 opEq (sVarB 4) (sC (.int 2)))) t__law_paper_9 sNext)
def t__law_paper_11 : RL.Env → SRes := (sRet (sTup (sCons (sVar 2) (sCons (sC (.str "help")) (sCons (sCl (sIx (sVarB 5) (sC (.int 0)))) (sCons (sVar 7) (sCons (sIx (sLst (sCons (sC (.str "every")) (sCons (sC (.str "ahead")) sNil))) (s2 opMod (sCallF 2 f__law_mixed (sCons (sVar 0) (sCons (sC (.int 106)) sNil))) (sC (.int 2)))) sNil)))))))
def t__law_paper_12 : RL.Env → SRes := (sIfS (sTest (s2 opEq (sVarB 4) (sC (.int 3)))) t__law_paper_11 sNext)
def t__law_paper_13 : RL.Env → SRes := (sAsg (.nm 10) true (sLst (sCons (sC (.str "away")) (sCons (sC (.str "unstarted")) (sCons (sC (.str "early")) (sCons (sC (.str "unfinished")) (sCons (sC (.str "retired")) (sCons (sC (.str "out")) (sCons (sC (.str "barred")) sNil)))))))))
def t__law_paper_14 : RL.Env → SRes := (sRet (sTup (sCons (sVar 2) (sCons (sC (.str "code")) (sCons (sCl (sIx (sVarB 5) (sC (.int 0)))) (sCons (sVar 7) (sCons (sCl (sIx (sVarB 10) (s2 opMod (sCallF 2 f__law_mixed (sCons (sVar 0) (sCons (sC (.int 107)) sNil))) (sC (.int 7))))) sNil)))))))
def t__law_paper_15 : RL.Env → SRes := (sIfS (sTest (s2 opLt (sVarB 4) (sC (.int 6)))) (sThen t__law_paper_13
    t__law_paper_14) sNext)
def t__law_paper_16 : RL.Env → SRes := (sAsg (.nm 8) true (s2 opMod (s2 opMul (sCallF 2 f__law_mixed (sCons (sVar 0) (sCons (sC (.int 108)) sNil))) (sC (.int 7))) (s2 opSub (sC (.int 360000)) (sIx (sVarB 5) (sC (.int 2))))))
def t__law_paper_17 : RL.Env → SRes := (sAsg (.nm 9) true (s2 opAdd (sIx (sVarB 5) (sC (.int 2))) (sIx (sLst (sCons (sVar 8) (sCons (sCall (on2 fMin2) (sCons (sVarB 8) (sCons (s2 opMod (sCallF 2 f__law_mixed (sCons (sVar 0) (sCons (sC (.int 109)) sNil))) (sC (.int 9))) sNil))) (sCons (sCall (on2 fMin2) (sCons (s2 opSub (sC (.int 359999)) (sIx (sVarB 5) (sC (.int 2)))) (sCons (sC (.int 600)) sNil))) sNil)))) (s2 opMod (sCallF 2 f__law_mixed (sCons (sVar 0) (sCons (sC (.int 110)) sNil))) (sC (.int 3))))))
def t__law_paper_18 : RL.Env → SRes := (sRet (sTup (sCons (sVar 2) (sCons (sC (.str "finish")) (sCons (sCl (sIx (sVarB 5) (sC (.int 0)))) (sCons (sVar 7) (sCons (sVar 9) sNil)))))))
def b__law_paper : RL.Env → SRes := (sThen t__law_paper_0
    (sThen t__law_paper_1
    (sThen t__law_paper_3
    (sThen t__law_paper_4
    (sThen t__law_paper_6
    (sThen t__law_paper_7
    (sThen t__law_paper_8
    (sThen t__law_paper_10
    (sThen t__law_paper_12
    (sThen t__law_paper_15
    (sThen t__law_paper_16
    (sThen t__law_paper_17
    t__law_paper_18))))))))))))
def f__law_paper : List D → FR := runDef 11 [] b__law_paper
end RQ
namespace RQ
open PySem RL RM RG L2
open RN (f__law_mixed)
inductive Pk where
  | fin (r s : Str) (t : Int) | code (r s c : Str) | cost (r s : Str) (k : Int) | help (r s h : Str) | off (r : Str) | void (o : Int)
abbrev Pp := Int × Pk
abbrev wFin : Str := "finish"
abbrev wCode : Str := "code"
abbrev wCost : Str := "cost"
abbrev wHelp : Str := "help"
abbrev wOff : Str := "off"
abbrev wVoid : Str := "void"
def ppD : Pp → D
  | (n, .fin r s t) => .tup [.int n, .str wFin, .str r, .str s, .int t]
  | (n, .code r s c) => .tup [.int n, .str wCode, .str r, .str s, .str c]
  | (n, .cost r s k) => .tup [.int n, .str wCost, .str r, .str s, .int k]
  | (n, .help r s h) => .tup [.int n, .str wHelp, .str r, .str s, .str h]
  | (n, .off r) => .tup [.int n, .str wOff, .str r]
  | (n, .void o) => .tup [.int n, .str wVoid, .int o]
theorem ppD_clean (p : Pp) : (ppD p).clean = true := by
  obtain ⟨n, p⟩ := p
  cases p <;> simp [ppD, D.clean, cleanL]
theorem ppD_frz (p : Pp) : (ppD p).frz = ppD p := by
  obtain ⟨n, p⟩ := p
  cases p <;> simp [ppD, D.frz, frzL]
abbrev codes : List Str := ["away", "unstarted", "early", "unfinished", "retired", "out", "barred"]
def PkOk (m : Mt) (n : Int) : Pk → Prop
  | .fin r s t => ∃ x ∈ m.rs, r = x.1 ∧ (∃ b ∈ sailsOf m x.2.1, s = b.1) ∧ x.2.2.1 ≤ t ∧ t ≤ 359999
  | .code r s c => ∃ x ∈ m.rs, r = x.1 ∧ (∃ b ∈ sailsOf m x.2.1, s = b.1) ∧ c ∈ codes
  | .cost r s k => ∃ x ∈ m.rs, r = x.1 ∧ (∃ b ∈ sailsOf m x.2.1, s = b.1) ∧ 1 ≤ k ∧ k ≤ 20
  | .help r s h => ∃ x ∈ m.rs, r = x.1 ∧ (∃ b ∈ sailsOf m x.2.1, s = b.1) ∧ (h = "every" ∨ h = "ahead")
  | .off r => ∃ x ∈ m.rs, r = x.1
  | .void o => 1 ≤ o ∧ o < n
section
variable {m : Mt} {nb nr : Nat}
theorem ix1 : opIx m.D (.int 1) = some (.tup (m.bs.map boatD)) := rfl
theorem ix3 : opIx m.D (.int 3) = some (.tup (m.rs.map raceD)) := rfl
theorem cB (m : Mt) : cleanL (m.bs.map boatD) = true := cleanL_of boatD_clean _
theorem cR (m : Mt) : cleanL (m.rs.map raceD) = true := cleanL_of raceD_clean _
theorem fR (m : Mt) : frzL (m.rs.map raceD) = m.rs.map raceD := frzL_of raceD_frz _
theorem entered_due (hb : m.bs.length ≤ 10000) {r : RcT} : f__law_entered [m.D, raceD r] = .ok (.lst true ((sailsOf m r.2.1).map fun b : BtT => D.str b.1)) [] := by
  have h2 : 2 ≤ sizeLine := by decide
  have ir : opIx (raceD r) (.int 1) = some (.str r.2.1) := rfl
  have l0 : l__law_entered_0 [some m.D, some (raceD r), none] = .ok (.lst true ((sailsOf m r.2.1).map fun b : BtT => D.str b.1)) := by
    refine lc_fl (e := boatD) hb (by simp [ix1, cB]) fun b _ => ?_
    simp [lcOne, wipeE, boatD, h2, in_two, ir]
    split <;> simp
  rw [f__law_entered, runDef_ap]
  simp [b__law_entered, entry, l0]
theorem sails_pos (g : Good nb nr m) {r : RcT} (h : r ∈ m.rs) : 0 < (sailsOf m r.2.1).length := by
  have b0 := g.b0
  rcases List.mem_append.mp (g.rok r h).1 with z | z
  · obtain ⟨b, h1, h2⟩ := List.mem_map.mp z
    exact List.length_pos_of_mem (List.mem_filter.mpr ⟨h1, by simp [h2]⟩)
  · have z := List.mem_singleton.mp z
    cases q : m.bs with
    | nil => rw [q] at b0; simp at b0
    | cons b bs => exact List.length_pos_of_mem (List.mem_filter.mpr ⟨by rw [q]; exact List.mem_cons_self, by rw [z]; simp⟩)
theorem fit_race (g : Good nb nr m) {r : RcT} (h : r ∈ m.rs) {n : Nat} : fitN (n + 1) (raceD r) = true := by
  have h1 := (nx_of (g.rnm r h)).ok
  have h2 := (nx_fleet g h).ok
  cases n <;> simp [raceD, fitN, h1, h2]
theorem eq_races (g : Good nb nr m) : opEq (.tup (m.rs.map raceD)) (.tup []) = some (.bl (decide (m.rs = []))) := by
  have f : (D.tup (m.rs.map raceD)).fit = true := by
    unfold D.fit
    rw [show (60 : Nat) = 59 + 1 from rfl]
    simp only [fitN, List.all_map, List.all_eq_true]
    exact fun r hr => fit_race g hr
  have f2 : (D.tup []).fit = true := by decide
  cases q : m.rs with
  | nil =>
    rw [q] at f
    have := opEq_same (x := .tup []) (y := .tup []) f2 f2 rfl
    simpa using this
  | cons r rs =>
    rw [q] at f
    simp only [List.map_cons] at f
    simp only [List.map_cons, opEq, strs?, f, f2, and_self, if_true]
    simp [D.py, pyL, PyData.eqv, PyData.eqvAll]
abbrev EP (m : Mt) (c n : Int) (way race ent sail far time some_ : Option D) : RL.Env := [some (.int c), some m.D, some (.int n), some (.tup (m.rs.map raceD)), way, race, ent, sail, far, time, some_]
theorem mixE (c : Int) {k : Int} (h : -(2 ^ 64) < k ∧ k < 2 ^ 64) : ∃ v : Int, f__law_mixed [.int c, .int k] = .ok (.int v) [] := ⟨_, RN.mix_eq h⟩
theorem paper_eqG (g : Good nb nr m) (hb : nb ≤ 100) (c : Int) {n : Int} (hn : 1 ≤ n) (hn2 : n ≤ 9999) : ∃ p : Pk, f__law_paper [.int c, m.D, .int n] = .ok (ppD (n, p)) [] ∧ PkOk m (if n = 1 then 2 else n) p := by
  have h2 : 2 ≤ sizeLine := by decide
  have h3 : 3 ≤ sizeLine := by decide
  have h5 : 5 ≤ sizeLine := by decide
  have h7 : 7 ≤ sizeLine := by decide
  have z0 : 0 ≤ sizeLine := by decide
  have bl : m.bs.length ≤ 10000 := by have := g.bn; omega
  have eqr := eq_races g
  obtain ⟨v100, m100⟩ := mixE c (k := 100) (by decide)
  obtain ⟨v101, m101⟩ := mixE c (k := 101) (by decide)
  obtain ⟨v102, m102⟩ := mixE c (k := 102) (by decide)
  obtain ⟨v103, m103⟩ := mixE c (k := 103) (by decide)
  obtain ⟨v104, m104⟩ := mixE c (k := 104) (by decide)
  obtain ⟨v105, m105⟩ := mixE c (k := 105) (by decide)
  obtain ⟨v106, m106⟩ := mixE c (k := 106) (by decide)
  obtain ⟨v107, m107⟩ := mixE c (k := 107) (by decide)
  obtain ⟨v108, m108⟩ := mixE c (k := 108) (by decide)
  obtain ⟨v109, m109⟩ := mixE c (k := 109) (by decide)
  obtain ⟨v110, m110⟩ := mixE c (k := 110) (by decide)
  obtain ⟨w, wl, qw⟩ := modN v100 (b := 16) (by decide)
  generalize (w : Int) = w at *
  have e0 : t__law_paper_0 [some (.int c), some m.D, some (.int n), none, none, none, none, none, none, none, none] = .nx (EP m c n none none none none none none none) := by
    simp [t__law_paper_0, ix3, cR, fR]
  have e1 : t__law_paper_1 (EP m c n none none none none none none none) = .nx (EP m c n (some (.int w)) none none none none none none) := by
    simp [t__law_paper_1, m100, qw]
  have en : entry 11 [.int c, m.D, .int n] = [some (.int c), some m.D, some (.int n), none, none, none, none, none, none, none, none] := rfl
  by_cases hv : w = 0 ∨ m.rs = []
  · -- a void
    obtain ⟨a, al, qa⟩ := modN v101 (b := (if n - 1 > 1 then n - 1 else 1)) (by split <;> omega)
    have mx : fMax2 (.int 1) (.int (n - 1)) = some (.int (if n - 1 > 1 then n - 1 else 1)) := rfl
    generalize hmm : (if n - 1 > 1 then n - 1 else 1) = mm at *
    have e3 : t__law_paper_3 (EP m c n (some (.int w)) none none none none none none) = .rt (ppD (n, .void (1 + (a : Int)))) (EP m c n (some (.int w)) none none none none none none) := by
      by_cases hw : w = 0
      · simp [t__law_paper_3, t__law_paper_2, hw, m101, mx, qa, h3, ppD]
      · have hr : m.rs = [] := hv.resolve_left hw
        simp [t__law_paper_3, t__law_paper_2, hw, eqr, z0, m101, mx, qa, h3, ppD]
        simp [hr]
    refine ⟨.void (1 + (a : Int)), ?_, by omega, ?_⟩
    · rw [f__law_paper, runDef_ap]
      unfold b__law_paper
      rw [sThen_ap, en, e0, andThen_nx, sThen_ap, e1, andThen_nx, sThen_ap, e3, andThen_rt]
      rfl
    · rw [← hmm] at al
      split at al <;> split <;> omega
  · obtain ⟨hw, hrs⟩ := not_or.mp hv
    have e3 : t__law_paper_3 (EP m c n (some (.int w)) none none none none none none) = .nx (EP m c n (some (.int w)) none none none none none none) := by
      simp [t__law_paper_3, hw, eqr, hrs, z0]
    have rp : 0 < m.rs.length := List.length_pos_iff.mpr hrs
    have q102 := mod_pos' (i := v102) (j := (m.rs.length : Int)) (by omega)
    obtain ⟨r, r1, r2⟩ := ix_one (f := raceD) (o := false) (xs := m.rs) (i := v102) rp
    have r2' : opIx (.tup (m.rs.map raceD)) (.int (v102 % (m.rs.length : Int))) = some (raceD r) := r2
    generalize v102 % (m.rs.length : Int) = i102 at *
    have i0 : opIx (raceD r) (.int 0) = some (.str r.1) := rfl
    have i2 : opIx (raceD r) (.int 2) = some (.int r.2.2.1) := rfl
    have rok := g.rok r r1
    have e4 : t__law_paper_4 (EP m c n (some (.int w)) none none none none none none) = .nx (EP m c n (some (.int w)) (some (raceD r)) none none none none none) := by
      simp [t__law_paper_4, m102, q102, r2', raceD_clean, raceD_frz, -opIx_t]
    have q103 := mod_pos' (i := v103) (j := 3) (by decide)
    generalize v103 % 3 = w3 at *
    by_cases ho : w = 1 ∧ w3 = 0
    · have e6 : t__law_paper_6 (EP m c n (some (.int w)) (some (raceD r)) none none none none none) = .rt (ppD (n, .off r.1)) (EP m c n (some (.int w)) (some (raceD r)) none none none none none) := by
        simp [t__law_paper_6, t__law_paper_5, ho.1, ho.2, m103, q103, i0, h3, ppD]
      refine ⟨.off r.1, ?_, r, r1, rfl⟩
      rw [f__law_paper, runDef_ap]
      unfold b__law_paper
      rw [sThen_ap, en, e0, andThen_nx, sThen_ap, e1, andThen_nx, sThen_ap, e3, andThen_nx, sThen_ap, e4, andThen_nx, sThen_ap, e6, andThen_rt]
      rfl
    · have e6 : t__law_paper_6 (EP m c n (some (.int w)) (some (raceD r)) none none none none none) = .nx (EP m c n (some (.int w)) (some (raceD r)) none none none none none) := by
        by_cases h1 : w = 1
        · have : ¬ w3 = 0 := fun z => ho ⟨h1, z⟩
          simp [t__law_paper_6, h1, this, m103, q103]
        · simp [t__law_paper_6, h1]
      have ed := entered_due (m := m) bl (r := r)
      have sp := sails_pos g r1
      have e7 : t__law_paper_7 (EP m c n (some (.int w)) (some (raceD r)) none none none none none) = .nx (EP m c n (some (.int w)) (some (raceD r)) (some (.lst false ((sailsOf m r.2.1).map fun b : BtT => D.str b.1))) none none none none) := by
        simp [t__law_paper_7, ed, raceD_clean, raceD_frz, frzL_map]
      have q104 := mod_pos' (i := v104) (j := ((sailsOf m r.2.1).length : Int)) (by omega)
      obtain ⟨b, b1, b2⟩ := ix_one (f := fun b : BtT => D.str b.1) (o := false) (xs := sailsOf m r.2.1) (i := v104) sp
      generalize hss : sailsOf m r.2.1 = ss at *
      generalize v104 % (ss.length : Int) = i104 at *
      have e8 : t__law_paper_8 (EP m c n (some (.int w)) (some (raceD r)) (some (.lst false (ss.map fun b : BtT => D.str b.1))) none none none none) = .nx (EP m c n (some (.int w)) (some (raceD r)) (some (.lst false (ss.map fun b : BtT => D.str b.1))) (some (.str b.1)) none none none) := by
        simp [t__law_paper_8, m104, q104, b2, -opIx_l]
      obtain ⟨E, hE⟩ : ∃ E : Option D, E = some (D.lst false (ss.map fun b : BtT => D.str b.1)) := ⟨_, rfl⟩
      rw [← hE] at e7 e8
      by_cases h2 : w = 2
      · have q105 := mod_pos' (i := v105) (j := 20) (by decide)
        have b105 := RN.mod_in v105 (b := 20) (by decide)
        generalize v105 % 20 = k at *
        have e10 : t__law_paper_10 (EP m c n (some (.int w)) (some (raceD r)) E (some (.str b.1)) none none none) = .rt (ppD (n, .cost r.1 b.1 (1 + k))) (EP m c n (some (.int w)) (some (raceD r)) E (some (.str b.1)) none none none) := by
          simp [t__law_paper_10, t__law_paper_9, h2, m105, q105, i0, h5, ppD]
        refine ⟨.cost r.1 b.1 (1 + k), ?_, r, r1, rfl, ⟨b, by rw [hss]; exact b1, rfl⟩, by omega, by omega⟩
        rw [f__law_paper, runDef_ap]
        unfold b__law_paper
        rw [sThen_ap, en, e0, andThen_nx, sThen_ap, e1, andThen_nx, sThen_ap, e3, andThen_nx, sThen_ap, e4, andThen_nx, sThen_ap, e6, andThen_nx, sThen_ap, e7, andThen_nx, sThen_ap, e8, andThen_nx, sThen_ap, e10, andThen_rt]
        rfl
      · have e10 : t__law_paper_10 (EP m c n (some (.int w)) (some (raceD r)) E (some (.str b.1)) none none none) = .nx (EP m c n (some (.int w)) (some (raceD r)) E (some (.str b.1)) none none none) := by
          simp [t__law_paper_10, h2]
        by_cases h3' : w = 3
        · have q106 := mod_pos' (i := v106) (j := 2) (by decide)
          have b106 := RN.mod_in v106 (b := 2) (by decide)
          generalize v106 % 2 = k at *
          obtain ⟨hw', hh1, hh2⟩ := ix_mem (xs := [D.str "every", .str "ahead"]) b106.1 b106.2
          obtain ⟨how, rfl, hhow⟩ : ∃ s : Str, hw' = .str s ∧ (s = "every" ∨ s = "ahead") := by
            simp only [List.mem_cons, List.not_mem_nil, or_false] at hh2
            rcases hh2 with rfl | rfl
            · exact ⟨_, rfl, .inl rfl⟩
            · exact ⟨_, rfl, .inr rfl⟩
          have e12 : t__law_paper_12 (EP m c n (some (.int w)) (some (raceD r)) E (some (.str b.1)) none none none) = .rt (ppD (n, .help r.1 b.1 how)) (EP m c n (some (.int w)) (some (raceD r)) E (some (.str b.1)) none none none) := by
            simp [t__law_paper_12, t__law_paper_11, h3', m106, q106, i0, h5, h2, hh1, ppD, sizeLine]
          refine ⟨.help r.1 b.1 how, ?_, r, r1, rfl, ⟨b, by rw [hss]; exact b1, rfl⟩, hhow⟩
          rw [f__law_paper, runDef_ap]
          unfold b__law_paper
          rw [sThen_ap, en, e0, andThen_nx, sThen_ap, e1, andThen_nx, sThen_ap, e3, andThen_nx, sThen_ap, e4, andThen_nx, sThen_ap, e6, andThen_nx, sThen_ap, e7, andThen_nx, sThen_ap, e8, andThen_nx, sThen_ap, e10, andThen_nx, sThen_ap, e12, andThen_rt]
          rfl
        · have e12 : t__law_paper_12 (EP m c n (some (.int w)) (some (raceD r)) E (some (.str b.1)) none none none) = .nx (EP m c n (some (.int w)) (some (raceD r)) E (some (.str b.1)) none none none) := by
            simp [t__law_paper_12, h3']
          by_cases h6 : w < 6
          · have q107 := mod_pos' (i := v107) (j := 7) (by decide)
            have b107 := RN.mod_in v107 (b := 7) (by decide)
            generalize v107 % 7 = k at *
            obtain ⟨cd, c1, c2⟩ := ix_mem (xs := codes.map D.str) b107.1 (by rw [List.length_map]; exact b107.2)
            obtain ⟨cs, c3, rfl⟩ := List.mem_map.mp c2
            have c1' : opIx (.lst false (codes.map D.str)) (.int k) = some (.str cs) := c1
            have e13 : t__law_paper_13 (EP m c n (some (.int w)) (some (raceD r)) E (some (.str b.1)) none none none) = .nx (EP m c n (some (.int w)) (some (raceD r)) E (some (.str b.1)) none none (some (.lst false (codes.map D.str)))) := by
              simp [t__law_paper_13, h7]
            have e14 : t__law_paper_14 (EP m c n (some (.int w)) (some (raceD r)) E (some (.str b.1)) none none (some (.lst false (codes.map D.str)))) = .rt (ppD (n, .code r.1 b.1 cs)) (EP m c n (some (.int w)) (some (raceD r)) E (some (.str b.1)) none none (some (.lst false (codes.map D.str)))) := by
              generalize codes.map D.str = cl at *
              simp [t__law_paper_14, m107, q107, i0, h5, c1', ppD, -opIx_l]
            have e15 : t__law_paper_15 (EP m c n (some (.int w)) (some (raceD r)) E (some (.str b.1)) none none none) = .rt (ppD (n, .code r.1 b.1 cs)) (EP m c n (some (.int w)) (some (raceD r)) E (some (.str b.1)) none none (some (.lst false (codes.map D.str)))) := by
              rw [t__law_paper_15, sIfS_ap]
              have : sTest (s2 opLt (sVarB 4) (sC (.int 6))) (EP m c n (some (.int w)) (some (raceD r)) E (some (.str b.1)) none none none) = .ok true := by simp [h6]
              rw [this, stm_ok, if_pos rfl, sThen_ap, e13, andThen_nx, e14]
            refine ⟨.code r.1 b.1 cs, ?_, r, r1, rfl, ⟨b, by rw [hss]; exact b1, rfl⟩, c3⟩
            rw [f__law_paper, runDef_ap]
            unfold b__law_paper
            rw [sThen_ap, en, e0, andThen_nx, sThen_ap, e1, andThen_nx, sThen_ap, e3, andThen_nx, sThen_ap, e4, andThen_nx, sThen_ap, e6, andThen_nx, sThen_ap, e7, andThen_nx, sThen_ap, e8, andThen_nx, sThen_ap, e10, andThen_nx, sThen_ap, e12, andThen_nx, sThen_ap, e15, andThen_rt]
            rfl
          · have e15 : t__law_paper_15 (EP m c n (some (.int w)) (some (raceD r)) E (some (.str b.1)) none none none) = .nx (EP m c n (some (.int w)) (some (raceD r)) E (some (.str b.1)) none none none) := by
              simp [t__law_paper_15, h6]
            obtain ⟨_, st1, st2, _, _⟩ := rok
            generalize hst : r.2.2.1 = st at *
            have mk := mulOk_r (i := v108) (j := 7) (by decide) (by decide)
            have mm := opMul_i mk
            generalize v108 * 7 = v7 at *
            obtain ⟨far, fl, qf⟩ := modN v7 (b := 360000 - st) (by omega)
            obtain ⟨n9, nl, q9⟩ := modN v109 (b := 9) (by decide)
            have q110 := mod_pos' (i := v110) (j := 3) (by decide)
            have b110 := RN.mod_in v110 (b := 3) (by decide)
            generalize v110 % 3 = k at *
            have mn1 : fMin2 (.int (far : Int)) (.int (n9 : Int)) = some (.int (if (n9 : Int) < far then (n9 : Int) else far)) := rfl
            have mn2 : fMin2 (.int (359999 - st)) (.int 600) = some (.int (if 600 < 359999 - st then 600 else 359999 - st)) := rfl
            obtain ⟨td, t1, t2⟩ := ix_mem (xs := [D.int far, .int (if (n9 : Int) < far then (n9 : Int) else far), .int (if 600 < 359999 - st then 600 else 359999 - st)]) b110.1 b110.2
            obtain ⟨ti, rfl, ti1, ti2⟩ : ∃ z : Int, td = .int z ∧ 0 ≤ z ∧ z ≤ 359999 - st := by
              simp only [List.mem_cons, List.not_mem_nil, or_false] at t2
              rcases t2 with rfl | rfl | rfl
              · exact ⟨_, rfl, by omega, by omega⟩
              · exact ⟨_, rfl, by split <;> omega, by split <;> omega⟩
              · exact ⟨_, rfl, by split <;> omega, by split <;> omega⟩
            generalize (if (n9 : Int) < far then (n9 : Int) else far) = x1 at *
            generalize (if 600 < 359999 - st then 600 else 359999 - st) = x2 at *
            have e16 : t__law_paper_16 (EP m c n (some (.int w)) (some (raceD r)) E (some (.str b.1)) none none none) = .nx (EP m c n (some (.int w)) (some (raceD r)) E (some (.str b.1)) (some (.int far)) none none) := by
              simp [t__law_paper_16, m108, mm, i2, qf]
            have e17 : t__law_paper_17 (EP m c n (some (.int w)) (some (raceD r)) E (some (.str b.1)) (some (.int far)) none none) = .nx (EP m c n (some (.int w)) (some (raceD r)) E (some (.str b.1)) (some (.int far)) (some (.int (st + ti))) none) := by
              simp [t__law_paper_17, m109, m110, i2, q9, q110, mn1, mn2, h3, t1]
            have e18 : t__law_paper_18 (EP m c n (some (.int w)) (some (raceD r)) E (some (.str b.1)) (some (.int far)) (some (.int (st + ti))) none) = .rt (ppD (n, .fin r.1 b.1 (st + ti))) (EP m c n (some (.int w)) (some (raceD r)) E (some (.str b.1)) (some (.int far)) (some (.int (st + ti))) none) := by
              simp [t__law_paper_18, i0, h5, ppD]
            refine ⟨.fin r.1 b.1 (st + ti), ?_, r, r1, rfl, ⟨b, by rw [hss]; exact b1, rfl⟩, by omega, by omega⟩
            rw [f__law_paper, runDef_ap]
            unfold b__law_paper
            rw [sThen_ap, en, e0, andThen_nx, sThen_ap, e1, andThen_nx, sThen_ap, e3, andThen_nx, sThen_ap, e4, andThen_nx, sThen_ap, e6, andThen_nx, sThen_ap, e7, andThen_nx, sThen_ap, e8, andThen_nx, sThen_ap, e10, andThen_nx, sThen_ap, e12, andThen_nx, sThen_ap, e15, andThen_nx, sThen_ap, e16, andThen_nx, sThen_ap, e17, andThen_nx, e18]
            rfl
theorem paper_eq (g : Good nb nr m) (hb : nb ≤ 100) (c : Int) {n : Int} (hn : 2 ≤ n) (hn2 : n ≤ 9999) : ∃ p : Pk, f__law_paper [.int c, m.D, .int n] = .ok (ppD (n, p)) [] ∧ PkOk m n p := by
  obtain ⟨p, h1, h2⟩ := paper_eqG g hb c (n := n) (by omega) hn2
  rw [if_neg (by omega)] at h2
  exact ⟨p, h1, h2⟩
end
end RQ
namespace RL
theorem pairs_zip {α : Type} {f : α → D} : ∀ (xs : List α) (k : Nat), pairsI k (xs.map f) = (xs.zipIdx k).map fun p => .tup [.int (p.2 : Int), f p.1]
  | [], _ => rfl
  | x :: xs, k => by
    simp only [List.map_cons, pairsI, List.zipIdx_cons, pairs_zip xs (k + 1)]
theorem enum_ints {o : Bool} {cs : List Int} : enum1 [.lst o (cs.map .int)] = some ((cs.zipIdx 0).map fun p => .tup [.int (p.2 : Int), .int p.1]) := by
  simp only [enum1, lstD_l cleanL_ints, Option.map_some, pairs_zip]
end RL
namespace RQ
open PySem RL RM RG L2
open RN (f__law_mixed)
def Pk.word : Pk → Str
  | .fin _ _ _ => wFin
  | .code _ _ _ => wCode
  | .cost _ _ _ => wCost
  | .help _ _ _ => wHelp
  | .off _ => wOff
  | .void _ => wVoid
theorem p0 (p : Pp) : opIx (ppD p) (.int 0) = some (.int p.1) := by
  obtain ⟨n, p⟩ := p
  cases p <;> rfl
theorem p1 (p : Pp) : opIx (ppD p) (.int 1) = some (.str p.2.word) := by
  obtain ⟨n, p⟩ := p
  cases p <;> rfl
section
variable {m : Mt} {nb nr : Nat}
end
end RQ
namespace RK
open PySem RL
end RK
namespace RK
open PySem RL RM RG RQ L2
def dM (vd : List Int) : D := .dct true (vd.map Sum.inl) (vd.map fun _ => D.bl true)
def mkV (o : Int) (vd : List Int) : List Int := if o ∈ vd then vd else vd ++ [o]
def addV (k : Pk) (vd : List Int) : List Int := match k with
  | .void o => mkV o vd
  | _ => vd
def stepC (s : List Pp × List Int) (p : Pp) : List Pp × List Int := if p.1 ∈ s.2 then s else (s.1 ++ [p], addV p.2 s.2)
def runC (ps : List Pp) : List Pp × List Int := ps.foldl stepC ([], [])
abbrev EC (o : Bool) (ps fd : List Pp) (vd : List Int) (j : Option D) : RL.Env := [some (.lst o (ps.map ppD)), some (.lst true (fd.map ppD)), some (dM vd), j]
end RK
namespace RK
open PySem RL RM RG RQ L2
structure Pps (ps : List Pp) : Prop where
  nd : (ps.map (·.1)).Nodup
  lt : ∀ p ∈ ps, ∀ o, p.2 = .void o → o < p.1
theorem Pps.sub {ps qs : List Pp} (h : Pps ps) (s : qs.Sublist ps) : Pps qs := ⟨h.nd.sublist (s.map _), fun x hx => h.lt x (s.subset hx)⟩
end RK
namespace RL
open PySem PySem.Spec PyProof.Rows L2
section
variable {α : Type} {k : α → Int} {v : α → D} {xs : List α} {o : Bool} {s : Int}
end
theorem inV_int {x : Int} {xs : List Int} : inV (.int x) (xs.map V.int) = decide (x ∈ xs) := by
  induction xs with
  | nil => rfl
  | cons y ys ih =>
    have e0 : eqV (.int y) (.int x) = decide (y = x) := by
      show (y == x) = _
      by_cases h : y = x
      · simp [h]
      · simp [h]
    have e : inV (.int x) ((y :: ys).map V.int) = (decide (y = x) || inV (.int x) (ys.map V.int)) := by
      show (eqV (.int y) (.int x) || _) = _
      rw [e0]; rfl
    rw [e, ih]
    by_cases h : y = x
    · simp [h]
    · have : ¬ x = y := fun e => h e.symm
      simp [h, this]
end RL
namespace RQ
open PySem RL RM RG RK L2
section
variable {m : Mt} {nb nr : Nat}
theorem Nx.le {n c : Nat} {x : Str} (h : Nx x) (hc : 62 ≤ c) : Sh n c (.str x) := (h.sh).le hc
end
end RQ
namespace RT
open PySem RL
def t_is_whole_0 : RL.Env → SRes := (sRet (sAnd (s1 (fIsTy "int") (sVarB 0)) (sNotV (s1 (fIsTy "bool") (sVarB 0)))))
def b_is_whole : RL.Env → SRes := t_is_whole_0
def f_is_whole : List D → FR := runDef 1 [] b_is_whole
def l_are_figures_0 : RL.Env → Res D := (sLc (sIter (sVar 0)) (.nm 3) [3] sYes (s2 oIn (sVarB 3) (sC (.str "0123456789"))))
def t_are_figures_1 : RL.Env → SRes := (sRet (sAnd (sChain opLe opLe (sVarB 1) (sCall (on1 fLenX) (sCons (sVarB 0) sNil)) (sVarB 2)) (sCall (on1 fAll) (sCons l_are_figures_0 sNil))))
def b_are_figures : RL.Env → SRes := t_are_figures_1
def f_are_figures : List D → FR := runDef 4 [] b_are_figures
def t_is_time_0 : RL.Env → SRes := (sRet (sAnd (sCallF 1 f_is_whole (sCons (sVar 0) sNil)) (sChain opLe opLe (sC (.int 0)) (sVarB 0) (sC (.int 359999)))))
def b_is_time : RL.Env → SRes := t_is_time_0
def f_is_time : List D → FR := runDef 1 [] b_is_time
def t_time_read_0 : RL.Env → SRes := (sAsg (.nm 1) true (sIf (sTest (s1 (fIsTy "str") (sVarB 0))) (sM1 fSplit (sVarB 0) (sC (.str ":"))) (sLst sNil)))
def t_time_read_1 : RL.Env → SRes := (sIfS (sOrT (sTest (s2 opNe (sCall (on1 fLenX) (sCons (sVarB 1) sNil)) (sC (.int 3)))) (sNot (sTest (sCallF 3 f_are_figures (sCons (sCl (sIx (sVarB 1) (sC (.int 0)))) (sCons (sC (.int 1)) (sCons (sC (.int 2)) sNil))))))) (sRaise "BadTime") sNext)
def t_time_read_2 : RL.Env → SRes := (sIfS (sOrT (sNot (sTest (sCallF 3 f_are_figures (sCons (sCl (sIx (sVarB 1) (sC (.int 1)))) (sCons (sC (.int 2)) (sCons (sC (.int 2)) sNil)))))) (sNot (sTest (sCallF 3 f_are_figures (sCons (sCl (sIx (sVarB 1) (sC (.int 2)))) (sCons (sC (.int 2)) (sCons (sC (.int 2)) sNil))))))) (sRaise "BadTime") sNext)
def l_time_read_3 : RL.Env → Res D := (sLc (sIter (sVar 1)) (.nm 5) [5] sYes (sCall (on1 fInt) (sCons (sVarB 5) sNil)))
def t_time_read_4 : RL.Env → SRes := (sAsg (.tp [(.nm 2), (.nm 3), (.nm 4)]) true l_time_read_3)
def t_time_read_5 : RL.Env → SRes := (sIfS (sOrT (sTest (s2 opNe (sCall (on1 fStr) (sCons (sVarB 2) sNil)) (sIx (sVarB 1) (sC (.int 0))))) (sOrT (sTest (s2 opGe (sVarB 3) (sC (.int 60)))) (sTest (s2 opGe (sVarB 4) (sC (.int 60)))))) (sRaise "BadTime") sNext)
def t_time_read_6 : RL.Env → SRes := (sRet (s2 opAdd (s2 opAdd (s2 opMul (sC (.int 3600)) (sVarB 2)) (s2 opMul (sC (.int 60)) (sVarB 3))) (sVarB 4)))
def b_time_read : RL.Env → SRes := (sThen t_time_read_0
    (sThen t_time_read_1
    (sThen t_time_read_2
    (sThen t_time_read_4
    (sThen t_time_read_5
    t_time_read_6)))))
def f_time_read : List D → FR := runDef 6 [] b_time_read
def t_need_time_0 : RL.Env → SRes := (sIfS (sNot (sTest (sCallF 1 f_is_time (sCons (sVar 0) sNil)))) (sRaise "BadTime") sNext)
def b_need_time : RL.Env → SRes := t_need_time_0
def f_need_time : List D → FR := runDef 1 [] b_need_time
def t_time_text_0 : RL.Env → SRes := (sExpr (sCallF 1 f_need_time (sCons (sVar 0) sNil)))
def t_time_text_1 : RL.Env → SRes := (sAsg (.tp [(.nm 1), (.nm 2)]) true (sCall (on2 fDivmod) (sCons (sVarB 0) (sCons (sC (.int 3600)) sNil))))
def t_time_text_2 : RL.Env → SRes := (sAsg (.tp [(.nm 3), (.nm 4)]) true (sCall (on2 fDivmod) (sCons (sVarB 2) (sCons (sC (.int 60)) sNil))))
def t_time_text_3 : RL.Env → SRes := (sRet (s2 opAdd (s2 opAdd (s2 opAdd (s2 opAdd (sCall (on1 fStr) (sCons (sVarB 1) sNil)) (sC (.str ":"))) (sM1 fZfill (sCall (on1 fStr) (sCons (sVarB 3) sNil)) (sC (.int 2)))) (sC (.str ":"))) (sM1 fZfill (sCall (on1 fStr) (sCons (sVarB 4) sNil)) (sC (.int 2)))))
def b_time_text : RL.Env → SRes := (sThen t_time_text_0
    (sThen t_time_text_1
    (sThen t_time_text_2
    t_time_text_3)))
def f_time_text : List D → FR := runDef 5 [] b_time_text
end RT
namespace RT
open PySem RL L2
theorem kits : kitB "NoneType" "int" = some false ∧ kitB "bool" "int" = some true ∧ kitB "int" "int" = some true ∧ kitB "str" "int" = some false ∧ kitB "tuple" "int" = some false ∧ kitB "list" "int" = some false ∧ kitB "dict" "int" = some false ∧
    kitB "bool" "bool" = some true ∧ kitB "int" "bool" = some false := by decide +kernel
theorem kitS : kitB "NoneType" "str" = some false ∧ kitB "bool" "str" = some false ∧ kitB "int" "str" = some false ∧ kitB "str" "str" = some true ∧ kitB "tuple" "str" = some false ∧ kitB "list" "str" = some false ∧ kitB "dict" "str" = some false := by decide +kernel
def isWhole : D → Bool
  | .int _ => true
  | _ => false
def isStr : D → Bool
  | .str _ => true
  | _ => false
theorem strTy {d : D} {t : String} (h : tyName d = some t) : fIsTy "str" d = some (.bl (isStr d)) := by
  obtain ⟨k1, k2, k3, k4, k5, k6, k7⟩ := kitS
  cases d <;> simp only [tyName, Option.some.injEq, reduceCtorEq] at h <;> simp [fIsTy, tyName, isStr, k1, k2, k3, k4, k5, k6, k7]
theorem whole_eq {d : D} {t : String} (h : tyName d = some t) : f_is_whole [d] = .ok (.bl (isWhole d)) [] := by
  obtain ⟨k1, k2, k3, k4, k5, k6, k7, k8, k9⟩ := kits
  rw [f_is_whole, runDef_ap]
  cases d <;> simp only [tyName, Option.some.injEq, reduceCtorEq] at h <;> simp [b_is_whole, t_is_whole_0, entry, fIsTy, tyName, isWhole, k1, k2, k3, k4, k5, k6, k7, k8, k9]
def isTime : D → Bool
  | .int i => decide (0 ≤ i) && decide (i ≤ 359999)
  | _ => false
theorem time_eq {d : D} {t : String} (h : tyName d = some t) (hc : d.clean = true) (hf : d.frz = d) : f_is_time [d] = .ok (.bl (isTime d)) [] := by
  have w := whole_eq h
  rw [f_is_time, runDef_ap]
  cases d with
  | int i => simp [b_is_time, t_is_time_0, entry, w, isTime, isWhole]; split <;> simp_all <;> omega
  | _ => simp [b_is_time, t_is_time_0, entry, w, isTime, isWhole, hc, hf]
abbrev bad : D := .exn "BadTime" [] []
theorem need_eq {d : D} {t : String} (h : tyName d = some t) (hc : d.clean = true) (hf : d.frz = d) : f_need_time [d] = if isTime d = true then .ok .non [] else .exc bad [] := by
  have w := time_eq h hc hf
  rw [f_need_time, runDef_ap]
  simp [b_need_time, t_need_time_0, entry, w, hc, hf]
  cases isTime d <;> simp
def two (m : Nat) : Str := ⟨#[48 + m / 10, 48 + m % 10]⟩
def num (n : Nat) : Str := Str.ofString (toString (n : Int))
theorem zf : ∀ m : Fin 60, Txt.zfill (num m.val) 2 = two m.val := by decide +kernel
theorem hun : ∀ m : Fin 60, cutS (num (100 + m.val)) (some 1) none = two m.val := by decide +kernel
theorem num2 : ∀ m : Fin 100, intText? (num m.val) = some (m.val : Int) ∧ (num m.val).cps.toList.all (fun c => decide (48 ≤ c) && decide (c ≤ 57)) = true ∧ 1 ≤ (num m.val).length ∧ (num m.val).length ≤ 2 := by decide +kernel
theorem two2 : ∀ m : Fin 60, intText? (two m.val) = some (m.val : Int) ∧ (two m.val).cps.toList.all (fun c => decide (48 ≤ c) && decide (c ≤ 57)) = true := by decide +kernel
theorem num3 : ∀ m : Fin 60, (num (100 + m.val)).length ≤ 3 := by decide +kernel
abbrev sD : Str := "0123456789"
theorem sD_eq : sD.cps.toList = [48, 49, 50, 51, 52, 53, 54, 55, 56, 57] := by decide +kernel
def fig (p : Str) : Bool := p.cps.toList.all fun c => decide (c ∈ sD.cps.toList)
theorem fig_dig {p : Str} : fig p = p.cps.toList.all (fun c => decide (48 ≤ c) && decide (c ≤ 57)) := by
  unfold fig
  rw [sD_eq]
  congr 1
  funext c
  by_cases h : 48 ≤ c ∧ c ≤ 57
  · have : c = 48 ∨ c = 49 ∨ c = 50 ∨ c = 51 ∨ c = 52 ∨ c = 53 ∨ c = 54 ∨ c = 55 ∨ c = 56 ∨ c = 57 := by omega
    simp [h.1, h.2, this]
  · have : ¬ (c = 48 ∨ c = 49 ∨ c = 50 ∨ c = 51 ∨ c = 52 ∨ c = 53 ∨ c = 54 ∨ c = 55 ∨ c = 56 ∨ c = 57) := by omega
    simp only [List.mem_cons, List.not_mem_nil, or_false, this, decide_false]
    symm
    rw [Bool.and_eq_false_iff, decide_eq_false_iff_not, decide_eq_false_iff_not]
    omega
theorem fig_int {p : Str} (h : fig p = true) (h1 : 1 ≤ p.length) (h2 : p.length ≤ 2) : ∃ n : Nat, intText? p = some (n : Int) ∧ n ≤ 99 := by
  rw [fig_dig] at h
  obtain ⟨⟨l⟩⟩ := p
  have hl : 1 ≤ l.length ∧ l.length ≤ 2 := ⟨by simpa [Str.length] using h1, by simpa [Str.length] using h2⟩
  have h' : l.all (fun c => decide (48 ≤ c) && decide (c ≤ 57)) = true := h
  have e := SX.int_S h' (by intro z; rw [z] at hl; simp at hl) (by omega)
  refine ⟨_, e, ?_⟩
  match l, hl with
  | [a], _ =>
    simp at h'
    simp [NumText.digitsVal]
    omega
  | [a, b], _ =>
    simp at h'
    simp [NumText.digitsVal]
    omega
def figsB (p : Str) (lo hi : Int) : Bool := decide (lo ≤ p.length) && (decide ((p.length : Int) ≤ hi) && fig p)
theorem bls_map : ∀ bs : List Bool, blsOf (bs.map .bl) = some bs
  | [] => rfl
  | b :: bs => by simp [blsOf, bls_map bs]
theorem figs_eq {p : Str} {lo hi : Int} (hp : p.length ≤ 1000) : f_are_figures [.str p, .int lo, .int hi] = .ok (.bl (figsB p lo hi)) [] := by
  have L : l_are_figures_0 [some (.str p), some (.int lo), some (.int hi), none] = .ok (.lst true ((p.cps.toList.map fun c => decide (c ∈ sD.cps.toList)).map .bl)) := by
    refine sLc_ok (ds := p.cps.toList.map fun c => .str ⟨#[c]⟩) (by simp) (by rw [List.length_map]; show p.cps.toList.length ≤ sizeLine; simp only [Array.length_toList]; unfold sizeLine; show p.length ≤ _; omega) ?_
    rw [List.map_map]
    refine lcRun_of fun c hc => ?_
    simp [lcOne, wipeE, Tg.set, oIn, fIn]
  have A : fAll (.lst true ((p.cps.toList.map fun c => decide (c ∈ sD.cps.toList)).map .bl)) = some (.bl (fig p)) := by
    simp only [fAll, bls_map, Option.map_some, fig, List.all_map]
    rfl
  generalize (p.cps.toList.map fun c => decide (c ∈ sD.cps.toList)) = bs at L A
  have F : fLenX (.str p) = some (.int p.length) := by
    show (if p.length ≤ sizeLine then some (D.int p.length) else none) = _
    rw [if_pos (by unfold sizeLine; omega)]
  rw [f_are_figures, runDef_ap]
  unfold b_are_figures t_are_figures_1
  rw [show entry 4 [D.str p, .int lo, .int hi] = [some (.str p), some (.int lo), some (.int hi), none] from rfl]
  simp [L, A, F, figsB]
  by_cases c1 : lo ≤ (p.length : Int)
  · by_cases c2 : (p.length : Int) ≤ hi
    · simp [c1, c2, L, A]
    · simp [c1, c2]
  · simp [c1]
def tread : List Str → Option Int
  | [p, q, r] => if figsB p 1 2 = true ∧ figsB q 2 2 = true ∧ figsB r 2 2 = true then (match intText? p, intText? q, intText? r with
    | some h, some m, some s => if Str.ofString (toString h) = p ∧ m < 60 ∧ s < 60 then some (3600 * h + 60 * m + s) else none
    | _, _, _ => none) else none
  | _ => none
abbrev lS (ps : List Str) : D := .lst false (ps.map .str)
theorem sml_nat {n : Nat} (h : n ≤ 100000) : sml (n : Int) = true := (show Bd 40 (n : Int) by unfold Bd; omega).sml (by decide)
theorem fStr_nat {n : Nat} (h : n ≤ 100000) : fStr (.int n) = some (.str (num n)) := by
  rw [fStr, if_pos (sml_nat h)]
  rfl
theorem fInt_s {p : Str} {n : Nat} (hp : p.length ≤ 640) (h : intText? p = some (n : Int)) : fInt (.str p) = some (.int n) := by
  rw [fInt, if_pos hp, h]
  rfl
abbrev tailS : RL.Env → SRes := sThen t_time_read_1 (sThen t_time_read_2 (sThen t_time_read_4 (sThen t_time_read_5 t_time_read_6)))
abbrev Et (x : D) (ps : List Str) : RL.Env := [some x, some (lS ps), none, none, none, none]
theorem tread_len {ps : List Str} (h : ps.length ≠ 3) : tread ps = none := by
  unfold tread
  split
  · simp at h
  · rfl
theorem tail_len {x : D} {ps : List Str} (h : ps.length ≠ 3) : tailS (Et x ps) = .exc bad (Et x ps) := by
  have h' : ¬ (ps.length : Int) = 3 := by omega
  have e : t_time_read_1 (Et x ps) = .exc bad (Et x ps) := by
    simp [t_time_read_1, h']
  rw [tailS, sThen_ap, e]
  rfl
theorem tail_3 {x : D} {p q r : Str} (hp : p.length ≤ 1000) (hq : q.length ≤ 1000) (hr : r.length ≤ 1000) : endF [] (tailS (Et x [p, q, r])) = (match tread [p, q, r] with | some t => .ok (.int t) [] | none => .exc bad []) := by
  have f1 := figs_eq (lo := 1) (hi := 2) hp
  have f2 := figs_eq (lo := 2) (hi := 2) hq
  have f3 := figs_eq (lo := 2) (hi := 2) hr
  by_cases c1 : figsB p 1 2 = true
  · have e1 : t_time_read_1 (Et x [p, q, r]) = .nx (Et x [p, q, r]) := by
      simp [t_time_read_1, f1, c1]
    by_cases c2 : figsB q 2 2 = true
    · by_cases c3 : figsB r 2 2 = true
      · have e2 : t_time_read_2 (Et x [p, q, r]) = .nx (Et x [p, q, r]) := by
          simp [t_time_read_2, f2, c2, f3, c3]
        have d1 := c1
        have d2 := c2
        have d3 := c3
        simp only [figsB, Bool.and_eq_true, decide_eq_true_eq] at d1 d2 d3
        obtain ⟨a, ha, ha2⟩ := fig_int d1.2.2 (by omega) (by omega)
        obtain ⟨b, hb, hb2⟩ := fig_int d2.2.2 (by omega) (by omega)
        obtain ⟨d, hd, hd2⟩ := fig_int d3.2.2 (by omega) (by omega)
        have i1 := fInt_s (by omega) ha
        have i2 := fInt_s (by omega) hb
        have i3 := fInt_s (by omega) hd
        have L : l_time_read_3 (Et x [p, q, r]) = .ok (.lst true [.int a, .int b, .int d]) := by
          have z : 3 ≤ sizeLine := by decide
          refine sLc_ok (ds := [.str p, .str q, .str r]) (by simp) z ?_
          simp [lcRun, lcOne, wipeE, Tg.set, i1, i2, i3]
        have e4 : t_time_read_4 (Et x [p, q, r]) = .nx [some x, some (lS [p, q, r]), some (.int a), some (.int b), some (.int d), none] := by
          simp [t_time_read_4, L]
        have n1 := fStr_nat (n := a) (by omega)
        have m1 := mulOk_l (i := 3600) (j := (a : Int)) (by decide) (by decide)
        have m2 := mulOk_l (i := 60) (j := (b : Int)) (by decide) (by decide)
        have e6 : t_time_read_6 [some x, some (lS [p, q, r]), some (.int a), some (.int b), some (.int d), none] = .rt (.int (3600 * a + 60 * b + d)) [some x, some (lS [p, q, r]), some (.int a), some (.int b), some (.int d), none] := by
          simp [t_time_read_6, opMul_i m1, opMul_i m2]
        have T : tread [p, q, r] = if num a = p ∧ (b : Int) < 60 ∧ (d : Int) < 60 then (some (3600 * (a : Int) + 60 * (b : Int) + (d : Int)) : Option Int) else none := by
          rw [tread, if_pos ⟨c1, c2, c3⟩, ha, hb, hd]
          rfl
        rw [T, tailS, sThen_ap, e1, andThen_nx, sThen_ap, e2, andThen_nx, sThen_ap, e4, andThen_nx, sThen_ap]
        by_cases g : num a = p ∧ (b : Int) < 60 ∧ (d : Int) < 60
        · have e5 : t_time_read_5 [some x, some (lS [p, q, r]), some (.int a), some (.int b), some (.int d), none] = .nx [some x, some (lS [p, q, r]), some (.int a), some (.int b), some (.int d), none] := by
            have g2 : ¬ (60 ≤ (b : Int)) := by omega
            have g3 : ¬ (60 ≤ (d : Int)) := by omega
            simp [t_time_read_5, n1, g.1, g2, g3]
          rw [if_pos g, e5, andThen_nx, e6]
          rfl
        · have e5 : t_time_read_5 [some x, some (lS [p, q, r]), some (.int a), some (.int b), some (.int d), none] = .exc bad [some x, some (lS [p, q, r]), some (.int a), some (.int b), some (.int d), none] := by
            by_cases g1 : num a = p
            · by_cases g2 : (60 ≤ (b : Int))
              · simp [t_time_read_5, n1, g1, g2]
              · have g3 : 60 ≤ (d : Int) := by
                  by_cases z : 60 ≤ (d : Int)
                  · exact z
                  · exact absurd ⟨g1, by omega, by omega⟩ g
                simp [t_time_read_5, n1, g1, g2, g3]
            · simp [t_time_read_5, n1, g1]
          rw [if_neg g, e5]
          rfl
      · have e2 : t_time_read_2 (Et x [p, q, r]) = .exc bad (Et x [p, q, r]) := by
          simp [t_time_read_2, f2, c2, f3, c3]
        have T : tread [p, q, r] = none := by rw [tread, if_neg fun z => c3 z.2.2]
        rw [T, tailS, sThen_ap, e1, andThen_nx, sThen_ap, e2]
        rfl
    · have e2 : t_time_read_2 (Et x [p, q, r]) = .exc bad (Et x [p, q, r]) := by
        simp [t_time_read_2, f2, c2]
      have T : tread [p, q, r] = none := by rw [tread, if_neg fun z => c2 z.2.1]
      rw [T, tailS, sThen_ap, e1, andThen_nx, sThen_ap, e2]
      rfl
  · have e1 : t_time_read_1 (Et x [p, q, r]) = .exc bad (Et x [p, q, r]) := by
      simp [t_time_read_1, f1, c1]
    have T : tread [p, q, r] = none := by rw [tread, if_neg fun z => c1 z.1]
    rw [T, tailS, sThen_ap, e1]
    rfl
theorem tail_eq {x : D} {ps : List Str} (hl : ∀ p ∈ ps, p.length ≤ 1000) : endF [] (tailS (Et x ps)) = (match tread ps with | some t => .ok (.int t) [] | none => .exc bad []) := by
  by_cases h : ps.length = 3
  · match ps, h with
    | [p, q, r], _ => exact tail_3 (hl p (by simp)) (hl q (by simp)) (hl r (by simp))
  · rw [tread_len h, tail_len h]
    rfl
theorem read_eq {x : Str} (hx : x.length ≤ 1000) (hl : ∀ p ∈ Txt.split x ":", p.length ≤ 1000) : f_time_read [.str x] = (match tread (Txt.split x ":") with | some t => .ok (.int t) [] | none => .exc bad []) := by
  have l1 : (Str.ofString ":").length = 1 := by decide +kernel
  have s := strTy (d := .str x) rfl
  have sp : fSplit x (.str ":") = some (.lst true ((Txt.split x ":").map .str)) := by
    rw [fSplit, if_pos ⟨by omega, by unfold sizeLine; omega⟩]
  have e0 : t_time_read_0 [some (.str x), none, none, none, none, none] = .nx (Et (.str x) (Txt.split x ":")) := by
    simp [t_time_read_0, s, isStr, sp]
  rw [f_time_read, runDef_ap]
  unfold b_time_read
  rw [show entry 6 [D.str x] = [some (.str x), none, none, none, none, none] from rfl, sThen_ap, e0, andThen_nx]
  exact tail_eq hl
abbrev co : Str := ":"
def ttxt (t : Nat) : Str := num (t / 3600) ++ co ++ two (t / 60 % 60) ++ co ++ two (t % 60)
theorem co_len : co.length = 1 := by decide +kernel
theorem two_len (m : Nat) : (two m).length = 2 := rfl
theorem dm {i j : Nat} (hj : 0 < j) (h : j < 1073741824) : fDivmod (.int i) (.int j) = some (.tup [.int ((i / j : Nat) : Int), .int ((i % j : Nat) : Int)]) := by
  have : 0 < (j : Int) ∧ (j : Int) < 1073741824 := by omega
  rw [fDivmod, if_pos this]
  rfl
theorem pad2 : PadOk 2 = true := by decide +kernel
theorem ttxt_len {t : Nat} (h : t ≤ 359999) : (ttxt t).length ≤ 8 := by
  have l1 := (num2 ⟨t / 3600, by omega⟩).2.2.2
  unfold ttxt
  simp only [Str.length_append, co_len, two_len]
  simp only at l1
  omega
theorem text_eq {t : Nat} (h : t ≤ 359999) : f_time_text [.int t] = .ok (.str (ttxt t)) [] := by
  have nd := need_eq (d := .int t) (t := "int") rfl rfl rfl
  have it : isTime (.int t) = true := by
    simp only [isTime, Bool.and_eq_true, decide_eq_true_eq]
    omega
  rw [if_pos it] at nd
  have d1 := dm (i := t) (j := 3600) (by decide) (by decide)
  have d2 := dm (i := t % 3600) (j := 60) (by decide) (by decide)
  have l1 : (num (t / 3600)).length ≤ 2 := (num2 ⟨t / 3600, by omega⟩).2.2.2
  have z1 : Txt.zfill (num (t / 60 % 60)) 2 = two (t / 60 % 60) := zf ⟨t / 60 % 60, by omega⟩
  have z2 : Txt.zfill (num (t % 60)) 2 = two (t % 60) := zf ⟨t % 60, by omega⟩
  have s1 := fStr_nat (n := t / 3600) (by omega)
  have s2 := fStr_nat (n := t / 60 % 60) (by omega)
  have s3 := fStr_nat (n := t % 60) (by omega)
  have m1 : t % 3600 / 60 = t / 60 % 60 := by omega
  have m2 : t % 3600 % 60 = t % 60 := by omega
  rw [m1, m2] at d2
  have t1 : fZfill (num (t / 60 % 60)) (.int 2) = some (.str (two (t / 60 % 60))) := by rw [fZfill, if_pos pad2, z1]
  have t2 : fZfill (num (t % 60)) (.int 2) = some (.str (two (t % 60))) := by rw [fZfill, if_pos pad2, z2]
  clear z1 z2 m1 m2
  unfold ttxt
  generalize t / 3600 = a at *
  generalize t / 60 % 60 = b at *
  generalize t % 60 = c at *
  generalize t % 3600 = r at *
  have a1 : opAdd (.str (num a)) (.str co) = some (.str (num a ++ co)) := opAdd_s (by rw [co_len]; unfold sizeLine; omega)
  have a2 : opAdd (.str (num a ++ co)) (.str (two b)) = some (.str (num a ++ co ++ two b)) := opAdd_s (by rw [Str.length_append, co_len, two_len]; unfold sizeLine; omega)
  have a3 : opAdd (.str (num a ++ co ++ two b)) (.str co) = some (.str (num a ++ co ++ two b ++ co)) := opAdd_s (by simp only [Str.length_append, co_len, two_len]; unfold sizeLine; omega)
  have a4 : opAdd (.str (num a ++ co ++ two b ++ co)) (.str (two c)) = some (.str (num a ++ co ++ two b ++ co ++ two c)) := opAdd_s (by simp only [Str.length_append, co_len, two_len]; unfold sizeLine; omega)
  have e0 : t_time_text_0 [some (.int t), none, none, none, none] = .nx [some (.int t), none, none, none, none] := by
    simp [t_time_text_0, nd]
  have e1 : t_time_text_1 [some (.int t), none, none, none, none] = .nx [some (.int t), some (.int a), some (.int r), none, none] := by
    have d1' : fDivmod (.int t) (.int 3600) = some (.tup [.int a, .int r]) := d1
    simp [t_time_text_1, d1']
  have e2 : t_time_text_2 [some (.int t), some (.int a), some (.int r), none, none] = .nx [some (.int t), some (.int a), some (.int r), some (.int b), some (.int c)] := by
    have d2' : fDivmod (.int r) (.int 60) = some (.tup [.int b, .int c]) := d2
    simp [t_time_text_2, d2']
  have e3 : t_time_text_3 [some (.int t), some (.int a), some (.int r), some (.int b), some (.int c)] = .rt (.str (num a ++ co ++ two b ++ co ++ two c)) [some (.int t), some (.int a), some (.int r), some (.int b), some (.int c)] := by
    simp [t_time_text_3, s1, s2, s3, t1, t2, a1, a2, a3, a4]
  rw [f_time_text, runDef_ap]
  unfold b_time_text
  rw [show entry 5 [D.int t] = [some (.int t), none, none, none, none] from rfl, sThen_ap, e0, andThen_nx, sThen_ap, e1, andThen_nx, sThen_ap, e2, andThen_nx, e3]
  rfl
theorem fig_no {p : Str} (h : p.cps.toList.all (fun c => decide (48 ≤ c) && decide (c ≤ 57)) = true) : (58 : Nat) ∉ TL.tl p := fun z => by
  have := List.all_eq_true.mp h 58 z
  simp at this
theorem split_ttxt {t : Nat} (h : t ≤ 359999) : Txt.split (ttxt t) co = [num (t / 3600), two (t / 60 % 60), two (t % 60)] := by
  have e : ttxt t = Txt.join co [num (t / 3600), two (t / 60 % 60), two (t % 60)] := by
    rw [TL.join_eq]
    show _ = num (t / 3600) ++ co ++ (two (t / 60 % 60) ++ co ++ two (t % 60))
    apply TL.ext_tl
    simp only [ttxt, TL.tl_append, List.append_assoc]
  rw [e]
  refine TL.split_join (s := 58) (S := []) (by decide +kernel) (by decide +kernel) (by simp) fun p hp => ?_
  simp only [List.mem_cons, List.not_mem_nil, or_false] at hp
  rcases hp with rfl | rfl | rfl
  · exact fig_no (num2 ⟨t / 3600, by omega⟩).2.1
  · exact fig_no (two2 ⟨t / 60 % 60, by omega⟩).2
  · exact fig_no (two2 ⟨t % 60, by omega⟩).2
theorem tread_ttxt {t : Nat} (h : t ≤ 359999) : tread (Txt.split (ttxt t) co) = some (t : Int) := by
  obtain ⟨a1, a2, a3, a4⟩ := num2 ⟨t / 3600, by omega⟩
  obtain ⟨b1, b2⟩ := two2 ⟨t / 60 % 60, by omega⟩
  obtain ⟨c1, c2⟩ := two2 ⟨t % 60, by omega⟩
  simp only at a1 a2 a3 a4 b1 b2 c1 c2
  rw [split_ttxt h, tread, if_pos, a1, b1, c1]
  · show (if num (t / 3600) = num (t / 3600) ∧ ((t / 60 % 60 : Nat) : Int) < 60 ∧ ((t % 60 : Nat) : Int) < 60 then some (3600 * ((t / 3600 : Nat) : Int) + 60 * ((t / 60 % 60 : Nat) : Int) + ((t % 60 : Nat) : Int)) else none) = _
    rw [if_pos ⟨rfl, by omega, by omega⟩]
    congr 1
    omega
  · have w {m : Nat} (hm : (two m).cps.toList.all (fun c => decide (48 ≤ c) && decide (c ≤ 57)) = true) : figsB (two m) 2 2 = true := by
      rw [← fig_dig] at hm
      rw [figsB, hm, two_len]
      rfl
    refine ⟨?_, w b2, w c2⟩
    rw [← fig_dig] at a2
    rw [figsB, a2]
    simp only [Bool.and_eq_true, decide_eq_true_eq, and_true]
    omega
theorem spl_len {S : List Nat} : ∀ {l : List Nat} {k : Nat} {acc p : List Nat}, p ∈ TL.spl S k acc l → p.length ≤ acc.length + l.length
  | [], k, acc, p, h => by
    rw [TL.spl_nil] at h
    have : p = acc := by simpa using h
    subst this
    omega
  | c :: r, 0, acc, p, h => by
    cases e : TL.pre S (c :: r) with
    | true =>
      rw [TL.spl_hit e] at h
      rcases List.mem_cons.mp h with rfl | h
      · omega
      · have := spl_len h
        simp only [List.length_nil, List.length_cons] at this ⊢
        omega
    | false =>
      rw [TL.spl_miss e] at h
      have := spl_len h
      simp only [List.length_append, List.length_cons, List.length_nil] at this ⊢
      omega
  | c :: r, k + 1, acc, p, h => by
    rw [TL.spl_pass] at h
    have h' : p ∈ TL.spl S 0 acc (r.drop k) := by simpa using h
    rw [← TL.spl_pass] at h'
    have := spl_len h'
    simp only [List.length_cons]
    omega
theorem split_len {x p : Str} (h : p ∈ Txt.split x co) : p.length ≤ x.length := by
  have hk : ¬ Builtin.Str.strKind x < Builtin.Str.strKind co := by
    have : Builtin.Str.strKind co = 1 := by decide +kernel
    rw [this]
    unfold Builtin.Str.strKind
    split <;> (try split) <;> omega
  have e := TL.split_spl x co (by decide +kernel) hk
  have hm : TL.tl p ∈ (Txt.split x co).map TL.tl := List.mem_map.mpr ⟨p, h, rfl⟩
  rw [e] at hm
  have := spl_len hm
  rw [TL.len_tl p, TL.len_tl x]
  simpa using this
end RT
namespace RR
open PySem RL
open RT (f_are_figures f_time_read)
open RG (f_meeting_of)
abbrev cs_classes_R : List Str := ["Reader"]
abbrev cs_crews_R : List Str := ["Reader"]
abbrev cs_last_R : List Str := ["Reader"]
abbrev cs_limits_R : List Str := ["Reader"]
abbrev cs_row_R : List Str := ["Reader"]
abbrev cs_runs_R : List Str := ["Reader"]
def t_Reader___init___0 : RL.Env → SRes := (sSetF cs_classes_R "classes" false (plVar 0) (sLst sNil))
def t_Reader___init___1 : RL.Env → SRes := (sSetF cs_crews_R "crews" false (plVar 0) (sLst sNil))
def t_Reader___init___2 : RL.Env → SRes := (sSetF cs_limits_R "limits" false (plVar 0) (sLst sNil))
def t_Reader___init___3 : RL.Env → SRes := (sSetF cs_runs_R "runs" false (plVar 0) (sLst sNil))
def t_Reader___init___4 : RL.Env → SRes := (sSetF cs_last_R "last" true (plVar 0) (sC (.int 0)))
def t_Reader___init___5 : RL.Env → SRes := (sSetF cs_row_R "row" true (plVar 0) (sC (.int 0)))
def b_Reader___init__ : RL.Env → SRes := (sThen t_Reader___init___0
    (sThen t_Reader___init___1
    (sThen t_Reader___init___2
    (sThen t_Reader___init___3
    (sThen t_Reader___init___4
    t_Reader___init___5)))))
def f_Reader___init__ : List D → FR := runDef 1 [0] b_Reader___init__
def t_Reader_need_0 (xb : RL.Env → SRes) : RL.Env → SRes := (sIfS (sNot (sTest (sVar 1))) xb sNext)
def b_Reader_need (xb : RL.Env → SRes) : RL.Env → SRes := (t_Reader_need_0 xb)
def f_Reader_need (xb : RL.Env → SRes) : List D → FR := runDef 2 [] (b_Reader_need xb)
def l_Reader_fleets_0 : RL.Env → Res D := (sLc (sIter (sCl (sFld cs_crews_R "crews" (sVarB 0)))) (.nm 1) [1] sYes (sTup (sCons (sCl (sIx (sVarB 1) (sC (.int 2)))) (sCons (sC (.bl true)) sNil))))
def t_Reader_fleets_1 : RL.Env → SRes := (sRet (sCall (on1 fListX) (sCons (s1 fDict l_Reader_fleets_0) sNil)))
def b_Reader_fleets : RL.Env → SRes := t_Reader_fleets_1
def f_Reader_fleets : List D → FR := runDef 2 [] b_Reader_fleets
def t_number_in_0 : RL.Env → SRes := (sIfS (sOrT (sNot (sTest (sCallF 3 f_are_figures (sCons (sVar 0) (sCons (sC (.int 1)) (sCons (sC (.int 4)) sNil)))))) (sAndT (sTest (s2 opEq (sIx (sVarB 0) (sC (.int 0))) (sC (.str "0")))) (sTest (s2 opNe (sVarB 0) (sC (.str "0")))))) (sRet (sC .non)) sNext)
def t_number_in_1 : RL.Env → SRes := (sRet (sCall (on1 fInt) (sCons (sVarB 0) sNil)))
def b_number_in : RL.Env → SRes := (sThen t_number_in_0
    t_number_in_1)
def f_number_in : List D → FR := runDef 1 [] b_number_in
def t_time_in_0 : RL.Env → SRes := (sAsg (.nm 1) true (sC .non))
def t_time_in_1 : RL.Env → SRes := (sAsg (.nm 1) true (sCallF 1 f_time_read (sCons (sVar 0) sNil)))
def t_time_in_2 : RL.Env → SRes := (sAsg (.nm 1) true (sC .non))
def t_time_in_3 (sb : List (Str × Bool)) : RL.Env → SRes := (sTryH [(sb, t_time_in_2)] t_time_in_1)
def b_time_in (sb : List (Str × Bool)) : RL.Env → SRes := (sThen t_time_in_0
    (sThen (t_time_in_3 sb)
    (sRet (sVar 1))))
def f_time_in (sb : List (Str × Bool)) : List D → FR := runDef 2 [] (b_time_in sb)
abbrev tab_fleets : List (Str × (List D → FR)) := [("Reader", f_Reader_fleets)]
end RR
namespace RR
open PySem RL RM RG
open RT (figsB figs_eq fig fig_dig tread read_eq bls_map sD sD_eq f_are_figures f_time_read)
def numIn (x : Str) : Option Int := if figsB x 1 4 = true ∧ ¬ (x.cps.getD 0 0 = 48 ∧ x ≠ ("0" : Str)) then intText? x else none
def optD : Option Int → D
  | some i => .int i
  | none => .non
theorem fig_int4 {p : Str} (h : fig p = true) (h1 : 1 ≤ p.length) (h2 : p.length ≤ 4) : ∃ n : Nat, intText? p = some (n : Int) ∧ n ≤ 9999 := by
  rw [fig_dig] at h
  obtain ⟨⟨l⟩⟩ := p
  have hl : 1 ≤ l.length ∧ l.length ≤ 4 := ⟨by simpa [Str.length] using h1, by simpa [Str.length] using h2⟩
  have h' : l.all (fun c => decide (48 ≤ c) && decide (c ≤ 57)) = true := h
  have e := SX.int_S h' (by intro z; rw [z] at hl; simp at hl) (by omega)
  refine ⟨_, e, ?_⟩
  match l, hl with
  | [a], _ =>
    simp at h'
    simp [NumText.digitsVal]
    omega
  | [a, b], _ =>
    simp at h'
    simp [NumText.digitsVal]
    omega
  | [a, b, c], _ =>
    simp at h'
    simp [NumText.digitsVal]
    omega
  | [a, b, c, d], _ =>
    simp at h'
    simp [NumText.digitsVal]
    omega
theorem numIn_le {x : Str} {i : Int} (h : numIn x = some i) : 0 ≤ i ∧ i ≤ 9999 := by
  unfold numIn at h
  split at h
  · rename_i c
    simp only [figsB, Bool.and_eq_true, decide_eq_true_eq] at c
    obtain ⟨n, hn, hn2⟩ := fig_int4 c.1.2.2 (by omega) (by omega)
    rw [hn] at h
    cases h
    omega
  · cases h
theorem number_in_eq {x : Str} (hx : x.length ≤ 1000) : f_number_in [.str x] = .ok (optD (numIn x)) [] := by
  have fe := figs_eq (p := x) (lo := 1) (hi := 4) hx
  rw [f_number_in, runDef_ap, show entry 1 [.str x] = [some (.str x)] from rfl]
  unfold b_number_in
  cases q : figsB x 1 4 with
  | false =>
    rw [q] at fe
    have e : numIn x = none := if_neg (by simp [q])
    rw [sThen_ap, e]
    simp [t_number_in_0, fe, optD]
  | true =>
    rw [q] at fe
    have q' := q
    simp only [figsB, Bool.and_eq_true, decide_eq_true_eq] at q'
    obtain ⟨l1, l4, hf⟩ := q'
    obtain ⟨n, hn, hn2⟩ := fig_int4 hf (by omega) (by omega)
    have ix : opIx (.str x) (.int 0) = some (.str ⟨#[x.cps.getD 0 0]⟩) := by
      have z : x.length ≤ sizeLine := by unfold sizeLine; omega
      obtain ⟨⟨l⟩⟩ := x
      cases l with
      | nil => simp [Str.length] at l1
      | cons a l =>
        show (if _ then _ else _) = _
        rw [if_pos z]
        show (L2.atI (a :: l) 0).map _ = _
        rw [atI_0]
        rfl
    have z0 : ((⟨#[x.cps.getD 0 0]⟩ : Str) = ("0" : Str)) ↔ x.cps.getD 0 0 = 48 := by
      constructor
      · intro h
        have e : ((⟨#[x.cps.getD 0 0]⟩ : Str).cps.getD 0 0) = (("0" : Str).cps.getD 0 0) := congrArg (fun s : Str => s.cps.getD 0 0) h
        exact (show x.cps.getD 0 0 = _ from e).trans (by decide +kernel)
      · intro h
        rw [h]
        decide +kernel
    have fi : fInt (.str x) = some (.int n) := by
      show (if x.length ≤ 640 then _ else _) = _
      rw [if_pos (by omega), hn]
      rfl
    have un : ∀ r, (r = if figsB x 1 4 = true ∧ ¬ (x.cps.getD 0 0 = 48 ∧ x ≠ ("0" : Str)) then intText? x else none) → numIn x = r := fun r h => h.symm
    generalize x.cps.getD 0 0 = c0 at *
    generalize (⟨#[c0]⟩ : Str) = C0 at *
    by_cases a : c0 = 48
    · have a' : C0 = ("0" : Str) := z0.mpr a
      by_cases b : x = ("0" : Str)
      · have e : numIn x = some (n : Int) := un _ (by rw [if_pos ⟨q, fun h => h.2 b⟩, hn])
        rw [sThen_ap, e]
        subst b
        simp [t_number_in_0, t_number_in_1, fe, ix, a', fi, optD]
      · have e : numIn x = none := un _ (by rw [if_neg (fun h => h.2 ⟨a, b⟩)])
        rw [sThen_ap, e]
        simp [t_number_in_0, fe, ix, a', b, optD]
    · have a' : C0 ≠ ("0" : Str) := fun h => a (z0.mp h)
      have e : numIn x = some (n : Int) := un _ (by rw [if_pos ⟨q, fun h => a h.1⟩, hn])
      rw [sThen_ap, e]
      simp [t_number_in_0, t_number_in_1, fe, ix, a', fi, optD]
end RR
namespace RR
open PySem RL RM RG
open RT (tread read_eq split_len f_time_read)
theorem eqv_strs : ∀ {xs ys : List Str}, PyData.eqvAll (pyL (xs.map D.str)) (pyL (ys.map D.str)) = decide (xs = ys)
  | [], [] => by simp [pyL, PyData.eqvAll]
  | [], y :: ys => by simp [pyL, PyData.eqvAll]
  | x :: xs, [] => by simp [pyL, PyData.eqvAll]
  | x :: xs, y :: ys => by
    have ih := eqv_strs (xs := xs) (ys := ys)
    simp only [List.map_cons, pyL, PyData.eqvAll, ih, D.py, PyData.eqv]
    by_cases h : x = y
    · subst h
      by_cases h2 : xs = ys <;> simp [h2]
    · simp [h]
theorem fit_strs {o : Bool} {xs : List Str} (h : ∀ x ∈ xs, PyData.strOk x = true) : (D.lst o (xs.map .str)).fit = true := by
  unfold D.fit
  rw [show (60 : Nat) = 59 + 1 from rfl]
  simp only [fitN, List.all_map, List.all_eq_true]
  exact fun x hx => h x hx
theorem opNe_L {o o' : Bool} {xs ys : List Str} (h : ∀ x ∈ xs, PyData.strOk x = true) (h' : ∀ x ∈ ys, PyData.strOk x = true) : opNe (.lst o (xs.map .str)) (.lst o' (ys.map .str)) = some (.bl (!decide (xs = ys))) := by
  have f1 := fit_strs (o := o) h
  have f2 := fit_strs (o := o') h'
  simp only [opNe, strs?, f1, f2, and_self, if_true, D.py, PyData.eqv, eqv_strs]
def timeIn (x : Str) : Option Int := tread (Txt.split x ":")
theorem time_in_eq {sb : List (Str × Bool)} (hs : subGo sb "BadTime" = some true) {x : Str} (hx : x.length ≤ 1000) : f_time_in sb [.str x] = .ok (optD (timeIn x)) [] := by
  have rd := read_eq hx fun p hp => Nat.le_trans (split_len hp) hx
  have e0 : t_time_in_0 [some (.str x), none] = .nx [some (.str x), some .non] := by simp [t_time_in_0]
  rw [f_time_in, runDef_ap, show entry 2 [D.str x] = [some (.str x), none] from rfl]
  unfold b_time_in timeIn
  rw [sThen_ap, e0, andThen_nx]
  cases q : tread (Txt.split x ":") with
  | none =>
    rw [q] at rd
    have e1 : t_time_in_1 [some (.str x), some .non] = .exc RT.bad [some (.str x), some .non] := by
      simp [t_time_in_1, rd]
    have e3 : t_time_in_3 sb [some (.str x), some .non] = .nx [some (.str x), some .non] := by
      rw [t_time_in_3, sTryH, e1]
      simp [hdGo, hs, t_time_in_2]
    rw [sThen_ap, e3, andThen_nx]
    simp [optD]
  | some t =>
    rw [q] at rd
    have e1 : t_time_in_1 [some (.str x), some .non] = .nx [some (.str x), some (.int t)] := by
      simp [t_time_in_1, rd]
    have e3 : t_time_in_3 sb [some (.str x), some .non] = .nx [some (.str x), some (.int t)] := by
      rw [t_time_in_3, sTryH, e1]
    rw [sThen_ap, e3, andThen_nx]
    simp [optD]
end RR
namespace RR
open PySem RL RM RG
abbrev fs6 : List Str := ["classes", "crews", "limits", "runs", "last", "row"]
structure Rs where
  cs : List ClT
  bs : List BtT
  ds : List Int
  rs : List RcT
  la : Int
  rw : Int
def rdD (o : Bool) (r : Rs) : D := .obj o "Reader" fs6 [.lst o (r.cs.map clD), .lst o (r.bs.map boatD), .lst o (r.ds.map .int), .lst o (r.rs.map raceD), .int r.la, .int r.rw]
section
variable {r : Rs} {o : Bool} {xb : RL.Env → SRes} {sb : List (Str × Bool)}
theorem need_eq : f_Reader_need xb [rdD false r, .bl true] = .ok .non [] := by
  rw [f_Reader_need, runDef_ap]
  simp [b_Reader_need, t_Reader_need_0, entry]
end
end RR
namespace RR
open PySem RL RM RG
structure Wds (ws : List Str) : Prop where
  len : ∀ w ∈ ws, w.length ≤ 1000
  ok : ∀ w ∈ ws, PyData.strOk w = true
  few : ws.length ≤ 1000
theorem Wds.tl {w : Str} {ws : List Str} (h : Wds (w :: ws)) : Wds ws := ⟨fun x hx => h.len x (List.mem_cons_of_mem _ hx), fun x hx => h.ok x (List.mem_cons_of_mem _ hx), by have := h.few; simp at this; omega⟩
abbrev wL (ws : List Str) : D := .lst false (ws.map .str)
section
variable {r : Rs} {xb : RL.Env → SRes} {sb : List (Str × Bool)} {ρ : RL.Env} {S : RL.Env → Res D}
end
end RR
namespace RR
open PySem RL RM RG
structure RsOk (r : Rs) : Prop where
  c6 : r.cs.length ≤ 6
  b24 : r.bs.length ≤ 24
  d3 : r.ds.length ≤ 1000
  r12 : r.rs.length ≤ 12
  bk : ∀ b ∈ r.bs, PyData.strOk b.1 = true ∧ PyData.strOk b.2.1 = true ∧ PyData.strOk b.2.2 = true
section
variable {r : Rs} {xb : RL.Env → SRes} {sb : List (Str × Bool)} {ρ : RL.Env} {S : RL.Env → Res D}
abbrev ED (r : Rs) (W : D) (a b : Option D) : RL.Env := [some (rdD true r), some W, a, b]
end
end RR
namespace RR
open PySem RL RM RG
section
variable {r : Rs} {xb xr : RL.Env → SRes} {sb : List (Str × Bool)} {ρ : RL.Env} {S : RL.Env → Res D}
end
end RR
namespace RR
open PySem RL RM RG
def wordsOf (l : Str) : List Str := (Txt.split (Txt.partition l ("#" : Str)).1 (" " : Str)).filter fun w => decide (w ≠ ("" : Str))
section
variable {r : Rs} {xb xr : RL.Env → SRes} {sb : List (Str × Bool)} {ρ : RL.Env} {S : RL.Env → Res D}
structure LineOk (l : Str) : Prop where
  len : l.length ≤ 100000
  pre : (Txt.partition l ("#" : Str)).1.length ≤ 100000
  few : (Txt.split (Txt.partition l ("#" : Str)).1 (" " : Str)).length ≤ 10000
  wds : Wds (wordsOf l)
abbrev ET (r : Rs) (x : Str) (L : D) (k l w : Option D) : RL.Env := [some (rdD true r), some (.str x), some L, k, l, w, none]
abbrev r0 : Rs := ⟨[], [], [], [], 0, 0⟩
theorem make_eq : mkRes "Reader" 1 f_Reader___init__ [] = .ok (rdD true r0) := by
  have z0 : 0 ≤ sizeLine := by decide
  rfl
end
end RR
namespace RR
open PySem RL RM RG
open RT (num ttxt figsB fig fig_dig tread_ttxt)
theorem num_tl (n : Nat) : (num n).cps.toList = TL.numL n := TL.tl_num n
theorem num_len {n k : Nat} (hk : 0 < k) (h : n < 10 ^ k) : (num n).length ≤ k := by
  have := TL.numL_len hk h
  rw [← num_tl] at this
  simpa [Str.length] using this
theorem num_pos (n : Nat) : 1 ≤ (num n).length := by
  have := TL.numL_ne n
  rw [← num_tl] at this
  have h : (num n).cps.toList.length ≠ 0 := fun z => this (List.length_eq_zero_iff.mp z)
  have : (num n).cps.toList.length = (num n).length := by simp [Str.length]
  omega
theorem num_fig (n : Nat) : fig (num n) = true := by
  rw [fig_dig, num_tl, List.all_eq_true]
  intro c hc
  have := TL.numL_digits n
  have h2 := this c hc
  simp only [Bool.and_eq_true, decide_eq_true_eq]
  omega
theorem num_head : ∀ {n : Nat}, 0 < n → (TL.numL n).head? ≠ some 48 := by
  intro n
  induction n using Nat.strongRecOn with
  | _ n ih =>
    intro hn
    by_cases h : n < 10
    · rw [TL.numL_lt h]
      simp
      omega
    · rw [TL.numL_step (by omega)]
      have := ih (n / 10) (by omega) (by omega)
      have ne := TL.numL_ne (n / 10)
      cases q : TL.numL (n / 10) with
      | nil => exact absurd q ne
      | cons a l => rw [q] at this; simpa using this
theorem num_in {n : Nat} (h : n ≤ 9999) : numIn (num n) = some (n : Int) := by
  have l4 := num_len (n := n) (k := 4) (by decide) (by omega)
  have l1 := num_pos n
  have it : intText? (num n) = some (n : Int) := TL.int_num (by
    have := TL.numL_len (n := n) (k := 4) (by decide) (by omega)
    omega)
  unfold numIn
  rw [if_pos, it]
  refine ⟨by
    simp only [figsB, num_fig, Bool.and_eq_true, decide_eq_true_eq, and_true]
    exact ⟨by omega, by omega⟩, fun ⟨z1, z2⟩ => ?_⟩
  by_cases h0 : n = 0
  · subst h0
    exact z2 (by decide +kernel)
  · have hh := num_head (n := n) (by omega)
    rw [← num_tl] at hh
    apply hh
    cases q : (num n).cps.toList with
    | nil =>
      have : (num n).cps.toList.length = (num n).length := by simp [Str.length]
      rw [q] at this
      simp at this
      omega
    | cons a l =>
      have : (num n).cps.getD 0 0 = a := by
        have e : (num n).cps = (a :: l).toArray := by rw [← q]
        rw [e]
        rfl
      rw [z1] at this
      rw [← this]
      rfl
section
variable {m : Mt} {nb nr : Nat}
theorem o_ne : ("boat" : Str) ≠ "class" ∧ ("drops" : Str) ≠ "class" ∧ ("drops" : Str) ≠ "boat" ∧ ("race" : Str) ≠ "class" ∧ ("race" : Str) ≠ "boat" ∧ ("race" : Str) ≠ "drops" := by decide +kernel
end
end RR
namespace RR
open PySem RL RM RG
open RT (num ttxt spl_len)
open TL (tl)
structure Wd (w : Str) : Prop where
  ne : tl w ≠ []
  ok : ∀ c ∈ tl w, c ≠ 32 ∧ c ≠ 35 ∧ c ≠ 9 ∧ c ≠ 10 ∧ c < 256
  len : w.length ≤ 100
theorem Wd.strOk {w : Str} (h : Wd w) : PyData.strOk w = true := by
  unfold PyData.strOk
  rw [Array.all_eq_true']
  intro c hc
  have := h.ok c (Array.mem_toList_iff.mpr hc)
  simp only [decide_eq_true_eq]
  omega
theorem nm_wd {x : Str} (h : RN.Nm x) : Wd x := by
  refine ⟨fun z => ?_, fun c hc => ?_, by have := h.hi; omega⟩
  · have := h.lo
    rw [TL.len_tl, z] at this
    simp at this
  · have hm : c ∈ RN.signs := h.sg c hc
    have : ∀ c ∈ RN.signs, c ≠ 32 ∧ c ≠ 35 ∧ c ≠ 9 ∧ c ≠ 10 ∧ c < 256 := by decide
    exact this c hm
theorem num_wd {n : Nat} (h : n ≤ 9999) : Wd (num n) := by
  have l4 := num_len (n := n) (k := 4) (by decide) (by omega)
  refine ⟨?_, fun c hc => ?_, by omega⟩
  · rw [show tl (num n) = TL.numL n from num_tl n]
    exact TL.numL_ne n
  · rw [show tl (num n) = TL.numL n from num_tl n] at hc
    have := TL.numL_digits n c hc
    omega
theorem two_wd {m : Nat} (h : m < 60) : ∀ c ∈ tl (RT.two m), 48 ≤ c ∧ c ≤ 57 := by
  intro c hc
  have e : tl (RT.two m) = [48 + m / 10, 48 + m % 10] := rfl
  rw [e] at hc
  simp only [List.mem_cons, List.not_mem_nil, or_false] at hc
  omega
theorem ttxt_wd {t : Nat} (h : t ≤ 359999) : Wd (ttxt t) := by
  have hl := RT.ttxt_len h
  have n1 := num_wd (n := t / 3600) (by omega)
  have e : tl (ttxt t) = tl (num (t / 3600)) ++ [58] ++ tl (RT.two (t / 60 % 60)) ++ [58] ++ tl (RT.two (t % 60)) := by
    unfold ttxt
    have : tl RT.co = [58] := by decide +kernel
    simp only [TL.tl_append, this]
  refine ⟨fun z => ?_, fun c hc => ?_, by omega⟩
  · rw [e] at z
    simp at z
  · rw [e] at hc
    simp only [List.mem_append, List.mem_cons, List.not_mem_nil, or_false] at hc
    rcases hc with (((hc | hc) | hc) | hc) | hc
    · exact n1.ok c hc
    · omega
    · have := two_wd (m := t / 60 % 60) (by omega) c hc
      omega
    · omega
    · have := two_wd (m := t % 60) (by omega) c hc
      omega
section
variable {m : Mt} {nb nr : Nat}
end
theorem spl_count : ∀ (l : List Nat) (k : Nat) (acc : List Nat), (TL.spl [32] k acc l).length ≤ l.length + 1
  | [], k, acc => by rw [TL.spl_nil]; simp
  | c :: r, 0, acc => by
    cases e : TL.pre [32] (c :: r) with
    | true =>
      rw [TL.spl_hit e, List.length_cons]
      have := spl_count r 0 []
      show (TL.spl [32] 0 [] r).length + 1 ≤ r.length + 1 + 1
      omega
    | false =>
      rw [TL.spl_miss e]
      have := spl_count r 0 (acc ++ [c])
      simp only [List.length_cons]
      omega
  | c :: r, k + 1, acc => by
    show (TL.spl [32] k acc r).length ≤ _
    have := spl_count r k acc
    simp only [List.length_cons]
    omega
theorem tl_inj : ∀ {xs ys : List Str}, xs.map tl = ys.map tl → xs = ys := fun h => TL.map_tl_inj h
theorem joinL_mem {S : List Nat} : ∀ {ws : List (List Nat)} {c : Nat}, c ∈ TL.joinL S ws → c ∈ S ∨ ∃ w ∈ ws, c ∈ w
  | [], c, h => by simp [TL.joinL] at h
  | [w], c, h => .inr ⟨w, by simp, h⟩
  | w :: v :: ws, c, h => by
    have h' : c ∈ w ++ (S ++ TL.joinL S (v :: ws)) := h
    rcases List.mem_append.mp h' with h | h
    · exact .inr ⟨w, by simp, h⟩
    · rcases List.mem_append.mp h with h | h
      · exact .inl h
      · rcases joinL_mem h with z | ⟨x, hx, z⟩
        · exact .inl z
        · exact .inr ⟨x, List.mem_cons_of_mem _ hx, z⟩
section
variable {r : Rs}
end
end RR
namespace RV
open PySem RL
def t__law_time_text_0 : RL.Env → SRes := (sRet (sM1 fJoin (sC (.str ":")) (sLst (sCons (sCall (on1 fStr) (sCons (s2 opFdiv (sVarB 0) (sC (.int 3600))) sNil)) (sCons (sSl (sCall (on1 fStr) (sCons (s2 opAdd (sC (.int 100)) (s2 opMod (s2 opFdiv (sVarB 0) (sC (.int 60))) (sC (.int 60)))) sNil)) (sPs (sC (.int 1))) sPn) (sCons (sSl (sCall (on1 fStr) (sCons (s2 opAdd (sC (.int 100)) (s2 opMod (sVarB 0) (sC (.int 60)))) sNil)) (sPs (sC (.int 1))) sPn) sNil))))))
def b__law_time_text : RL.Env → SRes := t__law_time_text_0
def f__law_time_text : List D → FR := runDef 1 [] b__law_time_text
end RV
namespace RV
open PySem RL RM RG RR
open RT (num ttxt two two_len co co_len hun num3 num2 fStr_nat)
open TL (tl)
theorem join_strs {a : Str} {o : Bool} {ys : List Str} (h : joinOk a ys = true) : fJoin a (.lst o (ys.map .str)) = some (.str (Txt.join a ys)) := by
  simp only [fJoin, strsD_map, Option.bind_some, h, if_true]
theorem sum_le {c : Nat} : ∀ {ys : List Str}, (∀ y ∈ ys, y.length ≤ c) → (ys.map (·.length)).sum ≤ ys.length * c
  | [], _ => by simp
  | y :: ys, h => by
    have := sum_le fun z hz => h z (List.mem_cons_of_mem y hz)
    have := h y (by simp)
    rw [List.map_cons, List.sum_cons, List.length_cons, Nat.add_mul]
    omega
theorem joinOk_of {a : Str} {c n : Nat} {ys : List Str} (h : ∀ y ∈ ys, y.length ≤ c) (hn : ys.length ≤ n) (hc : n * c + n * a.length ≤ 16777216) : joinOk a ys = true := by
  unfold joinOk
  have h1 := sum_le h
  have h2 := Nat.mul_le_mul_right c hn
  have h3 := Nat.mul_le_mul_right a.length hn
  exact decide_eq_true (by omega)
abbrev sp : Str := " "
theorem sp_len : sp.length = 1 := by decide +kernel
theorem join_wd {o : Bool} {ws : List Str} (wd : ∀ w ∈ ws, Wd w) (h : ws.length ≤ 6) : fJoin sp (.lst o (ws.map .str)) = some (.str (Txt.join sp ws)) :=
  join_strs (joinOk_of (c := 100) (n := 6) (fun y hy => (wd y hy).len) h (by rw [sp_len]; omega))
theorem join3 {a b c : Str} {o : Bool} (ha : a.length ≤ 10) (hb : b.length ≤ 10) (hc : c.length ≤ 10) : fJoin co (.lst o [.str a, .str b, .str c]) = some (.str (a ++ co ++ b ++ co ++ c)) := by
  have e : Txt.join co [a, b, c] = a ++ co ++ b ++ co ++ c := by
    rw [TL.join_eq]
    show a ++ co ++ (b ++ co ++ c) = _
    apply TL.ext_tl
    simp only [TL.tl_append, List.append_assoc]
  have := join_strs (a := co) (o := o) (ys := [a, b, c]) (joinOk_of (c := 10) (n := 3) (fun y hy => by
    simp only [List.mem_cons, List.not_mem_nil, or_false] at hy
    rcases hy with rfl | rfl | rfl <;> assumption) (by simp) (by rw [co_len]; omega))
  rw [e] at this
  exact this
theorem ltime_eq {t : Nat} (h : t ≤ 359999) : f__law_time_text [.int t] = .ok (.str (ttxt t)) [] := by
  have q1 := fdiv_pos' (i := (t : Int)) (j := 60) (by decide) (by decide +kernel)
  have q2 := fdiv_pos' (i := (t : Int)) (j := 3600) (by decide) (by decide +kernel)
  have q3 := mod_pos' (i := (t : Int)) (j := 60) (by decide)
  have q4 := mod_pos' (i := (t : Int) / 60) (j := 60) (by decide)
  have c1 : (t : Int) / 60 % 60 = ((t / 60 % 60 : Nat) : Int) := by omega
  have c2 : (t : Int) % 60 = ((t % 60 : Nat) : Int) := by omega
  have c3 : (t : Int) / 3600 = ((t / 3600 : Nat) : Int) := by omega
  rw [c1] at q4
  rw [c2] at q3
  rw [c3] at q2
  have b1 : t / 60 % 60 < 60 := by omega
  have b2 : t % 60 < 60 := by omega
  have b3 : t / 3600 < 100 := by omega
  unfold ttxt
  generalize t / 60 % 60 = m at *
  generalize t % 60 = s at *
  generalize t / 3600 = a at *
  generalize (t : Int) / 60 = u at *
  have l1 : (num a).length ≤ 2 := (num2 ⟨a, b3⟩).2.2.2
  have h1 : L2.cutS (num (100 + m)) (some 1) none = two m := hun ⟨m, b1⟩
  have h2 : L2.cutS (num (100 + s)) (some 1) none = two s := hun ⟨s, b2⟩
  have n1 : (num (100 + m)).length ≤ 3 := num3 ⟨m, b1⟩
  have n2 : (num (100 + s)).length ≤ 3 := num3 ⟨s, b2⟩
  have s1 : fStr (.int (100 + (m : Int))) = some (.str (num (100 + m))) := fStr_nat (n := 100 + m) (by omega)
  have s2 : fStr (.int (100 + (s : Int))) = some (.str (num (100 + s))) := fStr_nat (n := 100 + s) (by omega)
  have s3 := fStr_nat (n := a) (by omega)
  have o1 : opSl (.str (num (100 + m))) (some 1) none = some (.str (two m)) := by
    rw [opSl, if_pos (by unfold sizeLine; omega), h1]
  have o2 : opSl (.str (num (100 + s))) (some 1) none = some (.str (two s)) := by
    rw [opSl, if_pos (by unfold sizeLine; omega), h2]
  have z3 : 3 ≤ sizeLine := by decide
  have j := join3 (a := num a) (b := two m) (c := two s) (o := true) (by omega) (by rw [two_len]; omega) (by rw [two_len]; omega)
  rw [f__law_time_text, runDef_ap]
  simp [b__law_time_text, t__law_time_text_0, entry, q1, q2, q3, q4, s1, s2, s3, o1, o2, z3, j]
section
variable {m : Mt} {nb nr : Nat}
theorem num_str {i : Int} (h : 0 ≤ i) (h2 : i ≤ 9999) : fStr (.int i) = some (.str (num i.toNat)) := by
  have s := fStr_nat (n := i.toNat) (by omega)
  rwa [show ((i.toNat : Nat) : Int) = i by omega] at s
end
end RV
namespace RX
open PySem RL
def l__law_whole_0 : RL.Env → Res D := (sLc (sIter (sVar 0)) (.nm 1) [1] (sTest (s2 oNotIn (sVarB 1) (sC (.str "0123456789")))) (sVar 1))
def t__law_whole_1 : RL.Env → SRes := (sRet (s1 fNeg (sC (.int 1))))
def t__law_whole_2 : RL.Env → SRes := (sIfS (sOrT (sNot (sTest (sChain opLt opLt (sC (.int 0)) (sCall (on1 fLenX) (sCons (sVarB 0) sNil)) (sC (.int 5))))) (sTest (s2 opNe l__law_whole_0 (sLst sNil)))) t__law_whole_1 sNext)
def t__law_whole_3 : RL.Env → SRes := (sRet (sIf (sAndT (sTest (s2 opEq (sIx (sVarB 0) (sC (.int 0))) (sC (.str "0")))) (sTest (s2 opNe (sVarB 0) (sC (.str "0"))))) (s1 fNeg (sC (.int 1))) (sCall (on1 fInt) (sCons (sVarB 0) sNil))))
def b__law_whole : RL.Env → SRes := (sThen t__law_whole_2
    t__law_whole_3)
def f__law_whole : List D → FR := runDef 2 [] b__law_whole
def t__law_seconds_0 : RL.Env → SRes := (sAsg (.nm 1) true (sM1 fSplit (sVarB 0) (sC (.str ":"))))
def l__law_seconds_1 : RL.Env → Res D := (sLc (sIter (sM1 fJoin (sC (.str "")) (sVarB 1))) (.nm 3) [3] (sTest (s2 oNotIn (sVarB 3) (sC (.str "0123456789")))) (sVar 3))
def t__law_seconds_2 : RL.Env → SRes := (sRet (s1 fNeg (sC (.int 1))))
def t__law_seconds_3 : RL.Env → SRes := (sIfS (sOrT (sTest (s2 opNe (sCall (on1 fLenX) (sCons (sVarB 1) sNil)) (sC (.int 3)))) (sTest (s2 opNe l__law_seconds_1 (sLst sNil)))) t__law_seconds_2 sNext)
def l__law_seconds_4 : RL.Env → Res D := (sLc (sIter (sSl (sVarB 1) (sPs (sC (.int 1))) sPn)) (.nm 4) [4] sYes (sCall (on1 fLenX) (sCons (sVarB 4) sNil)))
def t__law_seconds_5 : RL.Env → SRes := (sRet (s1 fNeg (sC (.int 1))))
def t__law_seconds_6 : RL.Env → SRes := (sIfS (sOrT (sTest (s2 opNe l__law_seconds_4 (sLst (sCons (sC (.int 2)) (sCons (sC (.int 2)) sNil))))) (sTest (s2 opGtT (sCall (on1 fMaxT) (sCons (sSl (sVarB 1) (sPs (sC (.int 1))) sPn) sNil)) (sC (.str "59"))))) t__law_seconds_5 sNext)
def t__law_seconds_7 : RL.Env → SRes := (sAsg (.nm 2) true (sCallF 1 f__law_whole (sCons (sCl (sIx (sVarB 1) (sC (.int 0)))) sNil)))
def t__law_seconds_8 : RL.Env → SRes := (sRet (sIf (sNot (sTest (sChain opLe opLt (sC (.int 0)) (sVarB 2) (sC (.int 100))))) (s1 fNeg (sC (.int 1))) (s2 opAdd (s2 opAdd (s2 opMul (sVarB 2) (sC (.int 3600))) (s2 opMul (sCall (on1 fInt) (sCons (sIx (sVarB 1) (sC (.int 1))) sNil)) (sC (.int 60)))) (sCall (on1 fInt) (sCons (sIx (sVarB 1) (sC (.int 2))) sNil)))))
def b__law_seconds : RL.Env → SRes := (sThen t__law_seconds_0
    (sThen t__law_seconds_3
    (sThen t__law_seconds_6
    (sThen t__law_seconds_7
    t__law_seconds_8))))
def f__law_seconds : List D → FR := runDef 5 [] b__law_seconds
end RX
namespace RX
open PySem RL RM RG RR
open RT (figsB fig fig_dig tread sD sD_eq num fStr_nat fInt_s fig_int)
theorem no_figs {o : Bool} {x : Str} (hk : PyData.strOk x = true) {L : List D} (e : L = (x.cps.toList.filter fun c => !decide (c ∈ sD.cps.toList)).map fun c => D.str ⟨#[c]⟩) : opNe (.lst o L) (.lst true []) = some (.bl (!fig x)) := by
  have e2 : L = (((x.cps.toList.filter fun c => !decide (c ∈ sD.cps.toList)).map fun c => (⟨#[c]⟩ : Str))).map .str := by rw [e, List.map_map]; rfl
  have := opNe_L (o := o) (o' := true) (xs := (x.cps.toList.filter fun c => !decide (c ∈ sD.cps.toList)).map fun c => (⟨#[c]⟩ : Str)) (ys := []) (fun y hy => by
    obtain ⟨c, hc, rfl⟩ := List.mem_map.mp hy
    have := (List.mem_filter.mp hc).1
    unfold PyData.strOk at hk ⊢
    rw [← Array.all_toList, List.all_eq_true] at hk
    simpa using hk c this) (fun y hy => by simp at hy)
  rw [e2]
  refine this.trans ?_
  congr 2
  have iff : (((x.cps.toList.filter fun c => !decide (c ∈ sD.cps.toList)).map fun c => (⟨#[c]⟩ : Str)) = []) ↔ fig x = true := by
    rw [List.map_eq_nil_iff, List.filter_eq_nil_iff]
    unfold fig
    rw [List.all_eq_true]
    simp
  rw [Bool.eq_iff_iff, Bool.not_eq_true', Bool.not_eq_true', decide_eq_false_iff_not, iff, Bool.not_eq_true]
theorem ix_first {x : Str} (h : 0 < x.length) (hx : x.length ≤ 1000) : opIx (.str x) (.int 0) = some (.str ⟨#[x.cps.getD 0 0]⟩) := by
  have z : x.length ≤ sizeLine := by unfold sizeLine; omega
  obtain ⟨⟨l⟩⟩ := x
  cases l with
  | nil => simp [Str.length] at h
  | cons a l =>
    show (if _ then _ else _) = _
    rw [if_pos z]
    show (L2.atI (a :: l) 0).map _ = _
    rw [atI_0]
    rfl
theorem zero_first {x : Str} : ((⟨#[x.cps.getD 0 0]⟩ : Str) = ("0" : Str)) ↔ x.cps.getD 0 0 = 48 := by
  constructor
  · intro h
    have e : ((⟨#[x.cps.getD 0 0]⟩ : Str).cps.getD 0 0) = (("0" : Str).cps.getD 0 0) := congrArg (fun s : Str => s.cps.getD 0 0) h
    exact (show x.cps.getD 0 0 = _ from e).trans (by decide +kernel)
  · intro h
    rw [h]
    decide +kernel
theorem figL {ρ : RL.Env} {x : Str} {i : Nat} {S : RL.Env → Res (List D)} (hS : S ρ = .ok (x.cps.toList.map fun c => D.str ⟨#[c]⟩)) (hi : i < ρ.length) (hx : x.length ≤ 10000) : sLc S (.nm i) [i] (sTest (s2 oNotIn (sVarB i) (sC (.str "0123456789")))) (sVar i) ρ = .ok (.lst true ((x.cps.toList.filter fun c => !decide (c ∈ sD.cps.toList)).map fun c => D.str ⟨#[c]⟩)) := by
  refine lc_fl (e := fun c : Nat => D.str ⟨#[c]⟩) (by simpa [Str.length] using hx) hS fun c _ => ?_
  have sg : oNotIn (.str ⟨#[c]⟩) (.str "0123456789") = some (.bl (!decide (c ∈ sD.cps.toList))) := by
    simp [oNotIn, oIn, fIn]
  have h1 : (ρ.set i (some (D.str ⟨#[c]⟩)))[i]? = some (some (D.str ⟨#[c]⟩)) := by simp [hi]
  by_cases q : c ∈ sD.cps.toList
  · simp [lcOne, wipeE, Tg.set, sg, hi, q]
  · simp [lcOne, wipeE, Tg.set, sg, hi, q]
def wI (o : Option Int) : Int := o.getD (-1)
theorem lwhole_eq {x : Str} (hx : x.length ≤ 1000) (hk : PyData.strOk x = true) : f__law_whole [.str x] = .ok (.int (wI (numIn x))) [] := by
  have ln : fLenX (.str x) = some (.int (x.length : Int)) := by
    show (if x.length ≤ sizeLine then some (D.int x.length) else none) = _
    rw [if_pos (by unfold sizeLine; omega)]
  have l0 : l__law_whole_0 [some (.str x), none] = .ok (.lst true ((x.cps.toList.filter fun c => !decide (c ∈ sD.cps.toList)).map fun c => D.str ⟨#[c]⟩)) := figL (by simp) (by simp) (by omega)
  have nf := no_figs (o := true) hk rfl
  have n1 : fNeg (.int 1) = some (.int (-1)) := rfl
  generalize (D.lst true ((x.cps.toList.filter fun c => !decide (c ∈ sD.cps.toList)).map fun c => D.str ⟨#[c]⟩)) = L at *
  rw [f__law_whole, runDef_ap, show entry 2 [.str x] = [some (.str x), none] from rfl]
  by_cases h1 : 0 < x.length
  · have h1' : (0 : Int) < (x.length : Int) := by omega
    by_cases h2 : x.length < 5
    · have h5 : ¬ (5 ≤ (x.length : Int)) := by omega
      by_cases h3 : fig x = true
      · obtain ⟨n, hn, hn2⟩ := fig_int4 h3 (by omega) (by omega)
        have fi := fInt_s (by omega) hn
        have fg : figsB x 1 4 = true := by simp only [figsB, h3, Bool.and_true, Bool.and_eq_true, decide_eq_true_eq]; omega
        have ix : opIx (.str x) (.int 0) = some (.str ⟨#[x.cps.getD 0 0]⟩) := ix_first h1 hx
        have q0 : ((⟨#[x.cps.getD 0 0]⟩ : Str) = ("0" : Str)) ↔ x.cps.getD 0 0 = 48 := zero_first
        by_cases z : x.cps.getD 0 0 = 48 ∧ x ≠ ("0" : Str)
        · have nI : numIn x = none := by rw [numIn, if_neg fun k => k.2 z]
          rw [nI]
          rw [q0.mpr z.1] at ix
          simp [b__law_whole, t__law_whole_2, t__law_whole_1, t__law_whole_3, ln, h1, h5, l0, nf, h3, n1, ix, z.2, wI]
        · have nI : numIn x = some (n : Int) := by rw [numIn, if_pos ⟨fg, z⟩, hn]
          rw [nI]
          by_cases z1 : x.cps.getD 0 0 = 48
          · have z2 : x = ("0" : Str) := Classical.not_not.mp fun k => z ⟨z1, k⟩
            have q1 : opNe (.str x) (.str "0") = some (.bl false) := by rw [z2]; rfl
            rw [q0.mpr z1] at ix
            simp [b__law_whole, t__law_whole_2, t__law_whole_1, t__law_whole_3, ln, h1, h5, l0, nf, h3, n1, ix, q1, fi, wI, -opNe_s]
          · have q2 : ¬ ((⟨#[x.cps.getD 0 0]⟩ : Str) = ("0" : Str)) := fun k => z1 (q0.mp k)
            generalize (⟨#[x.cps.getD 0 0]⟩ : Str) = C0 at ix q2
            simp [b__law_whole, t__law_whole_2, t__law_whole_1, t__law_whole_3, ln, h1, h5, l0, nf, h3, n1, ix, q2, fi, wI]
      · have nI : numIn x = none := by rw [numIn, if_neg fun k => ?_]; have := k.1; simp only [figsB, Bool.and_eq_true] at this; exact h3 this.2.2
        rw [nI]
        simp [b__law_whole, t__law_whole_2, t__law_whole_1, ln, h1, h5, l0, nf, h3, n1, wI]
    · have h5 : 5 ≤ (x.length : Int) := by omega
      have nI : numIn x = none := by
        rw [numIn, if_neg fun k => ?_]
        have := k.1
        simp only [figsB, Bool.and_eq_true, decide_eq_true_eq] at this
        omega
      rw [nI]
      simp [b__law_whole, t__law_whole_2, t__law_whole_1, ln, h1, h5, n1, wI]
  · have nI : numIn x = none := by
      rw [numIn, if_neg fun k => ?_]
      have := k.1
      simp only [figsB, Bool.and_eq_true, decide_eq_true_eq] at this
      omega
    rw [nI]
    have h0 : x.length = 0 := by omega
    simp [b__law_whole, t__law_whole_2, t__law_whole_1, ln, h0, n1, wI]
end RX
namespace RX
open PySem RL RM RG RR
open RT (figsB fig fig_dig tread sD sD_eq num fStr_nat fInt_s fig_int two)
theorem two_lt : ∀ a b : Fin 100, decide ((two a.val).cps.toList < (two b.val).cps.toList) = decide (a.val < b.val) := by decide +kernel
theorem two_int : ∀ a : Fin 100, intText? (two a.val) = some (a.val : Int) ∧ fig (two a.val) = true ∧ (two a.val).length = 2 := by decide +kernel
theorem two_num : ∀ a : Fin 100, (10 ≤ a.val → num a.val = two a.val) ∧ (a.val < 10 → num a.val ≠ two a.val ∧ (two a.val).cps.getD 0 0 = 48 ∧ two a.val ≠ ("0" : Str)) ∧ (10 ≤ a.val → (two a.val).cps.getD 0 0 ≠ 48) := by decide +kernel
def one (m : Nat) : Str := ⟨#[48 + m]⟩
theorem one_num : ∀ a : Fin 10, num a.val = one a.val ∧ intText? (one a.val) = some (a.val : Int) ∧ (one a.val).length = 1 ∧ ((one a.val).cps.getD 0 0 = 48 → one a.val = ("0" : Str)) := by decide +kernel
theorem two_of {q : Str} (h : fig q = true) (hl : q.length = 2) : ∃ m, m < 100 ∧ q = RT.two m := by
  rw [fig_dig] at h
  obtain ⟨⟨l⟩⟩ := q
  match l, hl with
  | [a, b], _ =>
    simp at h
    refine ⟨10 * (a - 48) + (b - 48), by omega, ?_⟩
    have e1 : 48 + (10 * (a - 48) + (b - 48)) / 10 = a := by omega
    have e2 : 48 + (10 * (a - 48) + (b - 48)) % 10 = b := by omega
    rw [RT.two, e1, e2]
theorem one_of {q : Str} (h : fig q = true) (hl : q.length = 1) : ∃ m, m < 10 ∧ q = one m := by
  rw [fig_dig] at h
  obtain ⟨⟨l⟩⟩ := q
  match l, hl with
  | [a], _ =>
    simp at h
    refine ⟨a - 48, by omega, ?_⟩
    have e1 : 48 + (a - 48) = a := by omega
    rw [one, e1]
theorem figs12 {p : Str} {lo hi : Int} : figsB p lo hi = true ↔ lo ≤ (p.length : Int) ∧ (p.length : Int) ≤ hi ∧ fig p = true := by
  simp only [figsB, Bool.and_eq_true, decide_eq_true_eq]
theorem big_num {p : Str} (h : fig p = true) (h1 : 3 ≤ p.length) (h2 : p.length ≤ 4) {i : Int} (hi : numIn p = some i) : 100 ≤ i := by
  unfold numIn at hi
  split at hi
  · rename_i c
    rw [fig_dig] at h
    have c2 := c.2
    obtain ⟨⟨l⟩⟩ := p
    have hl : 3 ≤ l.length ∧ l.length ≤ 4 := ⟨by simpa [Str.length] using h1, by simpa [Str.length] using h2⟩
    have h' : l.all (fun c => decide (48 ≤ c) && decide (c ≤ 57)) = true := h
    have e := SX.int_S h' (by intro z; rw [z] at hl; simp at hl) (by omega)
    rw [e] at hi
    have hi := Option.some.inj hi
    match l, hl with
    | [a, b, d], _ =>
      have a0 : a ≠ 48 := fun z => c2 ⟨z, fun z2 => by rw [z2] at h1; revert h1; decide +kernel⟩
      simp at h'
      simp [NumText.digitsVal] at hi
      omega
    | [a, b, d, f], _ =>
      have a0 : a ≠ 48 := fun z => c2 ⟨z, fun z2 => by rw [z2] at h1; revert h1; decide +kernel⟩
      simp at h'
      simp [NumText.digitsVal] at hi
      omega
  · cases hi
theorem hours {p : Str} (hf : fig p = true) : (∃ h : Nat, h < 100 ∧ numIn p = some (h : Int) ∧ figsB p 1 2 = true ∧ intText? p = some (h : Int) ∧ num h = p) ∨ (¬ (0 ≤ wI (numIn p) ∧ wI (numIn p) < 100) ∧ ¬ (figsB p 1 2 = true ∧ ∃ h : Int, intText? p = some h ∧ Str.ofString (toString h) = p)) := by
  by_cases l1 : p.length = 1
  · obtain ⟨m, hm, rfl⟩ := one_of hf l1
    obtain ⟨k1, k2, k3, k4⟩ := one_num ⟨m, hm⟩
    refine .inl ⟨m, by omega, ?_, figs12.mpr ⟨by omega, by omega, hf⟩, k2, k1⟩
    rw [numIn, if_pos ⟨figs12.mpr ⟨by omega, by omega, hf⟩, fun z => z.2 (k4 z.1)⟩]
    exact k2
  by_cases l2 : p.length = 2
  · obtain ⟨m, hm, rfl⟩ := two_of hf l2
    obtain ⟨k1, k2, k3⟩ := two_num ⟨m, hm⟩
    obtain ⟨k4, k5, k6⟩ := two_int ⟨m, hm⟩
    by_cases g : 10 ≤ m
    · refine .inl ⟨m, by omega, ?_, figs12.mpr ⟨by omega, by omega, hf⟩, k4, k1 g⟩
      rw [numIn, if_pos ⟨figs12.mpr ⟨by omega, by omega, hf⟩, fun z => k3 g z.1⟩]
      exact k4
    · obtain ⟨j1, j2, j3⟩ := k2 (by simp only; omega)
      refine .inr ⟨?_, fun ⟨_, h, e1, e2⟩ => ?_⟩
      · rw [numIn, if_neg fun z => z.2 ⟨j2, j3⟩]
        simp [wI]
      · rw [k4] at e1
        cases e1
        exact j1 e2
  · refine .inr ⟨fun z => ?_, fun z => ?_⟩
    · cases q : numIn p with
      | none => rw [q] at z; simp [wI] at z
      | some i =>
        have q' := q
        unfold numIn at q'
        split at q'
        · rename_i c
          have c1 := figs12.mp c.1
          have := big_num hf (by omega) (by omega) q
          rw [q] at z
          simp [wI] at z
          omega
        · cases q'
    · have := figs12.mp z.1
      omega
end RX
namespace RX
open PySem RL RM RG RR
open RT (figsB fig fig_dig tread sD sD_eq num fStr_nat fInt_s fig_int co split_len)
theorem spl_mem {S : List Nat} {z : Nat} : ∀ {l : List Nat} {k : Nat} {acc p : List Nat}, p ∈ TL.spl S k acc l → z ∈ p → z ∈ acc ∨ z ∈ l
  | [], k, acc, p, h, hz => by
    rw [TL.spl_nil] at h
    have : p = acc := by simpa using h
    subst this
    exact .inl hz
  | c :: r, 0, acc, p, h, hz => by
    cases e : TL.pre S (c :: r) with
    | true =>
      rw [TL.spl_hit e] at h
      rcases List.mem_cons.mp h with rfl | h
      · exact .inl hz
      · rcases spl_mem h hz with h | h
        · simp at h
        · exact .inr (List.mem_cons_of_mem _ h)
    | false =>
      rw [TL.spl_miss e] at h
      rcases spl_mem h hz with h | h
      · rcases List.mem_append.mp h with h | h
        · exact .inl h
        · exact .inr (by simp at h; simp [h])
      · exact .inr (List.mem_cons_of_mem _ h)
  | c :: r, k + 1, acc, p, h, hz => by
    rw [TL.spl_pass] at h
    have h' : p ∈ TL.spl S 0 acc (r.drop k) := by simpa using h
    rw [← TL.spl_pass] at h'
    rcases spl_mem h' hz with h | h
    · exact .inl h
    · exact .inr (List.mem_cons_of_mem _ h)
theorem split_memG {x p s : Str} {c : Nat} (hs : TL.tl s ≠ []) (hk : ¬ Builtin.Str.strKind x < Builtin.Str.strKind s) (h : p ∈ Txt.split x s) (hc : c ∈ p.cps.toList) : c ∈ x.cps.toList := by
  have e := TL.split_spl x s hs hk
  have hm : TL.tl p ∈ (Txt.split x s).map TL.tl := List.mem_map.mpr ⟨p, h, rfl⟩
  rw [e] at hm
  rcases spl_mem hm hc with h | h
  · simp at h
  · exact h
theorem kind_co (x : Str) : ¬ Builtin.Str.strKind x < Builtin.Str.strKind co := by
  have : Builtin.Str.strKind co = 1 := by decide +kernel
  rw [this]
  unfold Builtin.Str.strKind
  split <;> (try split) <;> omega
theorem split_ok {x p s : Str} (hs : TL.tl s ≠ []) (hk : ¬ Builtin.Str.strKind x < Builtin.Str.strKind s) (h : p ∈ Txt.split x s) (hx : PyData.strOk x = true) : PyData.strOk p = true := by
  unfold PyData.strOk at hx ⊢
  rw [← Array.all_toList, List.all_eq_true] at hx ⊢
  exact fun c hc => hx c (split_memG hs hk h hc)
abbrev J3 (p q r : Str) : Str := Txt.join "" [p, q, r]
theorem tl_J (p q r : Str) : (J3 p q r).cps.toList = p.cps.toList ++ (q.cps.toList ++ r.cps.toList) := by
  show TL.tl (Txt.join "" [p, q, r]) = _
  rw [TL.join_eq, TL.tl_join, show TL.tl ("" : Str) = [] from by decide +kernel]
  simp [TL.joinL]
theorem fig_J (p q r : Str) : fig (J3 p q r) = (fig p && (fig q && fig r)) := by
  unfold fig
  rw [tl_J, List.all_append, List.all_append]
theorem len_J (p q r : Str) : (J3 p q r).length = p.length + q.length + r.length := by
  have := congrArg List.length (tl_J p q r)
  simp only [List.length_append, Array.length_toList] at this
  unfold Str.length
  omega
theorem ok_J {p q r : Str} (h1 : PyData.strOk p = true) (h2 : PyData.strOk q = true) (h3 : PyData.strOk r = true) : PyData.strOk (J3 p q r) = true := by
  unfold PyData.strOk at h1 h2 h3 ⊢
  rw [← Array.all_toList] at h1 h2 h3 ⊢
  rw [tl_J, List.all_append, List.all_append, h1, h2, h3]
  rfl
abbrev EC (x : Str) (ps : List Str) (h : Option D) : RL.Env := [some (.str x), some (.lst false (ps.map .str)), h, none, none]
theorem c_len {x : Str} {ps : List Str} (h : ps.length ≠ 3) : t__law_seconds_3 (EC x ps none) = .rt (.int (-1)) (EC x ps none) := by
  have h' : ¬ (ps.length : Int) = 3 := by omega
  have n1 : fNeg (.int 1) = some (.int (-1)) := rfl
  simp [t__law_seconds_3, t__law_seconds_2, h', n1]
theorem c_figs {x p q r : Str} (hp : p.length ≤ 1000) (hq : q.length ≤ 1000) (hr : r.length ≤ 1000) (k1 : PyData.strOk p = true) (k2 : PyData.strOk q = true) (k3 : PyData.strOk r = true) :
    t__law_seconds_3 (EC x [p, q, r] none) = if (fig p && (fig q && fig r)) = true then .nx (EC x [p, q, r] none) else .rt (.int (-1)) (EC x [p, q, r] none) := by
  have jn : fJoin "" (.lst false [.str p, .str q, .str r]) = some (.str (J3 p q r)) := RV.join_strs (a := "") (ys := [p, q, r]) (RV.joinOk_of (c := 1000) (n := 3) (fun y hy => by
    simp only [List.mem_cons, List.not_mem_nil, or_false] at hy
    rcases hy with rfl | rfl | rfl <;> assumption) (by simp) (by decide +kernel))
  have lj := len_J p q r
  have n1 : fNeg (.int 1) = some (.int (-1)) := rfl
  have l1 : l__law_seconds_1 (EC x [p, q, r] none) = .ok (.lst true (((J3 p q r).cps.toList.filter fun c => !decide (c ∈ sD.cps.toList)).map fun c => D.str ⟨#[c]⟩)) := by
    refine figL ?_ (by simp) (by omega)
    have it : iterD (.str (J3 p q r)) = some ((J3 p q r).cps.toList.map fun c => D.str ⟨#[c]⟩) := rfl
    generalize J3 p q r = J at *
    simp [jn, it]
  have nf := no_figs (o := true) (ok_J k1 k2 k3) rfl
  rw [fig_J] at nf
  generalize (D.lst true (((J3 p q r).cps.toList.filter fun c => !decide (c ∈ sD.cps.toList)).map fun c => D.str ⟨#[c]⟩)) = L at *
  generalize (fig p && (fig q && fig r)) = b at *
  have z0 : 0 ≤ sizeLine := by decide
  cases b <;> simp [t__law_seconds_3, t__law_seconds_2, l1, nf, n1, z0]
theorem c_lens {x p q r : Str} (hq : q.length ≤ 1000) (hr : r.length ≤ 1000) : l__law_seconds_4 (EC x [p, q, r] none) = .ok (.lst true ([(q.length : Int), (r.length : Int)].map .int)) := by
  have z : ∀ y : Str, y.length ≤ 1000 → y.length ≤ sizeLine := fun y h => by unfold sizeLine; omega
  have f : ∀ y : Str, y.length ≤ 1000 → fLenX (.str y) = some (.int (y.length : Int)) := fun y h => by
    show (if y.length ≤ sizeLine then some (D.int y.length) else none) = _
    rw [if_pos (z y h)]
  refine lc_map (e := fun y : Str => D.str y) (g := fun y => .int (y.length : Int)) (xs := [q, r]) (by simp) ?_ fun y hy => ?_
  · have sl : opSl (.lst false [.str p, .str q, .str r]) (some 1) none = some (.lst true [.str q, .str r]) := rfl
    simp [sl]
  · have : y.length ≤ 1000 := by
      simp only [List.mem_cons, List.not_mem_nil, or_false] at hy
      rcases hy with rfl | rfl <;> assumption
    simp [lcOne, wipeE, Tg.set, f y this]
theorem c_tail {x p q r : Str} {h A B : Int} (f1 : fInt (.str q) = some (.int A)) (f2 : fInt (.str r) = some (.int B)) :
    t__law_seconds_8 (EC x [p, q, r] (some (.int h))) = .rt (.int (if 0 ≤ h ∧ h < 100 then h * 3600 + A * 60 + B else -1)) (EC x [p, q, r] (some (.int h))) := by
  have n1 : fNeg (.int 1) = some (.int (-1)) := rfl
  have m1 := opMul_i (mulOk_r (i := h) (j := 3600) (by decide) (by decide))
  have m2 := opMul_i (mulOk_r (i := A) (j := 60) (by decide) (by decide))
  generalize h * 3600 = H at *
  generalize A * 60 = A' at *
  by_cases c : 0 ≤ h
  · by_cases d : h < 100
    · rw [if_pos ⟨c, d⟩]
      simp [t__law_seconds_8, c, d, f1, f2, m1, m2]
    · rw [if_neg fun z => d z.2]
      have d' : 100 ≤ h := by omega
      simp [t__law_seconds_8, c, d, d', n1]
  · rw [if_neg fun z => c z.1]
    have c' : h < 0 := by omega
    simp [t__law_seconds_8, c, c', n1]
theorem ne_22 {a b : Int} : opNe (.lst true [.int a, .int b]) (.lst true [.int 2, .int 2]) = some (.bl (!(decide (a = 2) && decide (b = 2)))) := by
  have f : (D.lst true [.int a, .int b]).fit = true := rfl
  have f2 : (D.lst true [.int 2, .int 2]).fit = true := rfl
  unfold opNe
  have e : strs? (.lst true [.int a, .int b]) (.lst true [D.int 2, .int 2]) = none := rfl
  rw [e]
  simp only [f, f2, and_self, if_true]
  simp [D.py, pyL, PyData.eqv, PyData.eqvAll]
  rfl
theorem lseconds_eq {x : Str} (hx : x.length ≤ 1000) (hk : PyData.strOk x = true) : f__law_seconds [.str x] = .ok (.int (wI (timeIn x))) [] := by
  have z2 : 2 ≤ sizeLine := by decide
  have n1 : fNeg (.int 1) = some (.int (-1)) := rfl
  have sp : fSplit x (.str ":") = some (.lst true ((Txt.split x ":").map .str)) := by
    have cl : (":" : Str).length ≠ 0 := by decide +kernel
    show (if _ then _ else _) = _
    rw [if_pos ⟨cl, by unfold sizeLine; omega⟩]
  have hl : ∀ p ∈ Txt.split x ":", p.length ≤ 1000 := fun p hp => Nat.le_trans (split_len hp) hx
  have hok : ∀ p ∈ Txt.split x ":", PyData.strOk p = true := fun p hp => split_ok (s := ":") (by decide +kernel) (kind_co x) hp hk
  have e0 : t__law_seconds_0 [some (.str x), none, none, none, none] = .nx (EC x (Txt.split x ":") none) := by
    simp [t__law_seconds_0, sp, D.frz, frzL_strs]
  rw [f__law_seconds, runDef_ap, show entry 5 [D.str x] = [some (.str x), none, none, none, none] from rfl]
  unfold b__law_seconds timeIn
  rw [sThen_ap, e0, andThen_nx]
  generalize Txt.split x ":" = ps at *
  by_cases h3 : ps.length = 3
  · match ps, h3 with
    | [p, q, r], _ =>
      have hp := hl p (by simp)
      have hq := hl q (by simp)
      have hr := hl r (by simp)
      have kp := hok p (by simp)
      have kq := hok q (by simp)
      have kr := hok r (by simp)
      have e3 := c_figs (x := x) hp hq hr kp kq kr
      rw [sThen_ap, e3]
      by_cases F : (fig p && (fig q && fig r)) = true
      · rw [if_pos F, andThen_nx, sThen_ap]
        simp only [Bool.and_eq_true] at F
        obtain ⟨Fp, Fq, Fr⟩ := F
        have l4 := c_lens (x := x) (p := p) hq hr
        by_cases L : q.length = 2 ∧ r.length = 2
        · obtain ⟨a, ha, ea⟩ := two_of Fq L.1
          obtain ⟨b, hb, eb⟩ := two_of Fr L.2
          obtain ⟨i1, i2, i3⟩ := two_int ⟨a, ha⟩
          obtain ⟨j1, j2, j3⟩ := two_int ⟨b, hb⟩
          have f1 : fInt (.str q) = some (.int a) := by rw [ea]; exact fInt_s (by rw [i3]; omega) i1
          have f2 : fInt (.str r) = some (.int b) := by rw [eb]; exact fInt_s (by rw [j3]; omega) j1
          have I1 : intText? q = some (a : Int) := by rw [ea]; exact i1
          have I2 : intText? r = some (b : Int) := by rw [eb]; exact j1
          have mx : fMaxT (.lst true [.str q, .str r]) = some (.str (RT.two (max a b))) := by
            show some (D.str (if q.cps.toList < r.cps.toList then r else q)) = _
            have lt := two_lt ⟨a, ha⟩ ⟨b, hb⟩
            simp only [decide_eq_decide] at lt
            rw [← ea, ← eb] at lt
            by_cases g : a < b
            · rw [if_pos (lt.mpr g), eb, Nat.max_eq_right (by omega)]
            · rw [if_neg fun z => g (lt.mp z), ea, Nat.max_eq_left (by omega)]
          have gt : opGtT (.str (RT.two (max a b))) (.str "59") = some (.bl (decide (60 ≤ a ∨ 60 ≤ b))) := by
            have e59 : ("59" : Str) = RT.two 59 := by decide +kernel
            have lt := two_lt ⟨59, by omega⟩ ⟨max a b, by omega⟩
            simp only at lt
            show some (D.bl (decide (("59" : Str).cps.toList < _))) = _
            rw [e59, lt]
            congr 2
            rw [decide_eq_decide]
            omega
          have sl : opSl (.lst false [.str p, .str q, .str r]) (some 1) none = some (.lst true [.str q, .str r]) := rfl
          have N := ne_22 (a := (q.length : Int)) (b := (r.length : Int))
          have N' : (!(decide ((q.length : Int) = 2) && decide ((r.length : Int) = 2))) = false := by simp [L.1, L.2]
          rw [N'] at N
          have T : tread [p, q, r] = if figsB p 1 2 = true then (match intText? p with
            | some h => if Str.ofString (toString h) = p ∧ (a : Int) < 60 ∧ (b : Int) < 60 then some (3600 * h + 60 * (a : Int) + b) else none
            | none => none) else none := by
            rw [tread, I1, I2]
            have g2 : figsB q 2 2 = true := figs12.mpr ⟨by omega, by omega, Fq⟩
            have g3 : figsB r 2 2 = true := figs12.mpr ⟨by omega, by omega, Fr⟩
            by_cases g1 : figsB p 1 2 = true
            · rw [if_pos ⟨g1, g2, g3⟩, if_pos g1]
              cases intText? p <;> rfl
            · rw [if_neg fun z => g1 z.1, if_neg g1]
          by_cases g : 60 ≤ a ∨ 60 ≤ b
          · have e6 : t__law_seconds_6 (EC x [p, q, r] none) = .rt (.int (-1)) (EC x [p, q, r] none) := by
              rw [decide_eq_true g] at gt
              simp [t__law_seconds_6, t__law_seconds_5, l4, N, sl, mx, gt, n1, z2]
            rw [e6]
            have : tread [p, q, r] = none := by
              rw [T]
              split
              · split
                · rw [if_neg]; omega
                · rfl
              · rfl
            rw [this]
            rfl
          · have e6 : t__law_seconds_6 (EC x [p, q, r] none) = .nx (EC x [p, q, r] none) := by
              rw [decide_eq_false g] at gt
              simp [t__law_seconds_6, t__law_seconds_5, l4, N, sl, mx, gt, n1, z2]
            have wh := lwhole_eq hp kp
            have e7 : t__law_seconds_7 (EC x [p, q, r] none) = .nx (EC x [p, q, r] (some (.int (wI (numIn p))))) := by
              simp [t__law_seconds_7, wh]
            rw [e6, andThen_nx, sThen_ap, e7, andThen_nx, c_tail f1 f2]
            rcases hours Fp with ⟨h, h1, h2, h3, h4, h5⟩ | ⟨h1, h2⟩
            · rw [h2, T, if_pos h3, h4]
              have h5' : Str.ofString (toString (h : Int)) = p := h5
              have w0 : wI (some (h : Int)) = h := rfl
              have c1 : Str.ofString (toString (h : Int)) = p ∧ (a : Int) < 60 ∧ (b : Int) < 60 := ⟨h5', by omega, by omega⟩
              have c2 : 0 ≤ (h : Int) ∧ (h : Int) < 100 := ⟨by omega, by omega⟩
              rw [w0]
              simp only
              rw [if_pos c1, if_pos c2]
              show FR.ok (.int ((h : Int) * 3600 + (a : Int) * 60 + (b : Int))) [] = FR.ok (.int (3600 * (h : Int) + 60 * (a : Int) + b)) []
              rw [show (h : Int) * 3600 + (a : Int) * 60 + (b : Int) = 3600 * (h : Int) + 60 * (a : Int) + b by omega]
            · rw [if_neg h1, T]
              have : (if figsB p 1 2 = true then (match intText? p with
                | some h => if Str.ofString (toString h) = p ∧ (a : Int) < 60 ∧ (b : Int) < 60 then some (3600 * h + 60 * (a : Int) + b) else none
                | none => none) else none) = (none : Option Int) := by
                split
                · rename_i c
                  split
                  · rename_i h hh
                    rw [if_neg fun z => h2 ⟨c, h, hh, z.1⟩]
                  · rfl
                · rfl
              rw [this]
              rfl
        · have N := ne_22 (a := (q.length : Int)) (b := (r.length : Int))
          have N' : (!(decide ((q.length : Int) = 2) && decide ((r.length : Int) = 2))) = true := by
            by_cases g : q.length = 2
            · have : ¬ r.length = 2 := fun z => L ⟨g, z⟩
              have : ¬ (r.length : Int) = 2 := by omega
              simp [this]
            · have : ¬ (q.length : Int) = 2 := by omega
              simp [this]
          rw [N'] at N
          have e6 : t__law_seconds_6 (EC x [p, q, r] none) = .rt (.int (-1)) (EC x [p, q, r] none) := by
            simp [t__law_seconds_6, t__law_seconds_5, l4, N, n1, z2]
          have T : tread [p, q, r] = none := by
            rw [tread, if_neg fun z => ?_]
            have := figs12.mp z.2.1
            have := figs12.mp z.2.2
            omega
          rw [e6, T]
          rfl
      · rw [if_neg F]
        have T : tread [p, q, r] = none := by
          rw [tread, if_neg fun z => ?_]
          have a := figs12.mp z.1
          have b := figs12.mp z.2.1
          have c := figs12.mp z.2.2
          rw [a.2.2, b.2.2, c.2.2] at F
          exact F rfl
        rw [T]
        rfl
  · rw [sThen_ap, c_len h3, RT.tread_len h3]
    rfl
end RX
namespace RW
open PySem RL
open RT (f_is_whole f_is_time)
open RG (f_is_in f_Meeting_race f_Meeting_races f_Meeting_entered)
abbrev kd_TOLD : List (Str × D) := [("code", .tup [.str "away", .str "unstarted", .str "early", .str "unfinished", .str "retired", .str "out", .str "barred"]), ("help", .tup [.str "every", .str "ahead"])]
def t_is_among_0 : RL.Env → SRes := (sRet (sAnd (sCallF 1 f_is_whole (sCons (sVar 0) sNil)) (sChain opLe opLe (sVarB 1) (sVarB 0) (sVarB 2))))
def b_is_among : RL.Env → SRes := t_is_among_0
def f_is_among : List D → FR := runDef 3 [] b_is_among
abbrev tab_race : List (Str × (List D → FR)) := [("Meeting", f_Meeting_race)]
def t_is_told_0 : RL.Env → SRes := (sRet (sAnd (sCallF 1 f_is_time (sCons (sVar 3) sNil)) (s2 opLe (sIx (sMeth "race" tab_race 2 (sVar 0) (sCons (sVar 2) sNil)) (sC (.int 2))) (sVarB 3))))
def t_is_told_1 : RL.Env → SRes := (sIfS (sTest (s2 opEq (sVarB 1) (sC (.str "finish")))) t_is_told_0 sNext)
def t_is_told_2 : RL.Env → SRes := (sRet (sCallF 3 f_is_among (sCons (sVar 3) (sCons (sC (.int 1)) (sCons (sC (.int 20)) sNil)))))
def t_is_told_3 : RL.Env → SRes := (sIfS (sTest (s2 opEq (sVarB 1) (sC (.str "cost")))) t_is_told_2 sNext)
def t_is_told_4 : RL.Env → SRes := (sRet (sCallF 2 f_is_in (sCons (sVar 3) (sCons (s1 (fKd kd_TOLD) (sVarB 1)) sNil))))
def b_is_told : RL.Env → SRes := (sThen t_is_told_1
    (sThen t_is_told_3
    t_is_told_4))
def f_is_told : List D → FR := runDef 4 [] b_is_told
abbrev tab_races : List (Str × (List D → FR)) := [("Meeting", f_Meeting_races)]
abbrev tab_entered : List (Str × (List D → FR)) := [("Meeting", f_Meeting_entered)]
def t_is_paper_0 : RL.Env → SRes := (sIfS (sOrT (sNot (sTest (s1 (fIsTy "tuple") (sVarB 1)))) (sOrT (sTest (s2 opLt (sCall (on1 fLenX) (sCons (sVarB 1) sNil)) (sC (.int 3)))) (sNot (sTest (sCallF 3 f_is_among (sCons (sCl (sIx (sVarB 1) (sC (.int 0)))) (sCons (sC (.int 1)) (sCons (sC (.int 9999)) sNil)))))))) (sRet (sC (.bl false))) sNext)
def t_is_paper_1 : RL.Env → SRes := (sIfS (sOrT (sTest (s2 opNe (sCall (on1 fLenX) (sCons (sVarB 1) sNil)) (sC (.int 5)))) (sOrT (sNot (sTest (sCallF 2 f_is_in (sCons (sCl (sIx (sVarB 1) (sC (.int 1)))) (sCons (sC (.tup [.str "finish", .str "code", .str "cost", .str "help"])) sNil))))) (sNot (sTest (sCallF 2 f_is_in (sCons (sCl (sIx (sVarB 1) (sC (.int 2)))) (sCons (sMeth "races" tab_races 1 (sVar 0) sNil) sNil))))))) (sRet (sC (.bl false))) sNext)
def t_is_paper_2 : RL.Env → SRes := (sRet (sAnd (sCallF 2 f_is_in (sCons (sCl (sIx (sVarB 1) (sC (.int 3)))) (sCons (sMeth "entered" tab_entered 2 (sVar 0) (sCons (sCl (sIx (sVarB 1) (sC (.int 2)))) sNil)) sNil))) (sCallF 4 f_is_told (sCons (sVar 0) (sCons (sCl (sIx (sVarB 1) (sC (.int 1)))) (sCons (sCl (sIx (sVarB 1) (sC (.int 2)))) (sCons (sCl (sIx (sVarB 1) (sC (.int 4)))) sNil)))))))
def t_is_paper_3 : RL.Env → SRes := (sIfS (sNot (sTest (sCallF 2 f_is_in (sCons (sCl (sIx (sVarB 1) (sC (.int 1)))) (sCons (sLst (sCons (sC (.str "off")) (sCons (sC (.str "void")) sNil))) sNil))))) (sThen t_is_paper_1
    t_is_paper_2) sNext)
def t_is_paper_4 : RL.Env → SRes := (sIfS (sTest (s2 opNe (sCall (on1 fLenX) (sCons (sVarB 1) sNil)) (sC (.int 3)))) (sRet (sC (.bl false))) sNext)
def t_is_paper_5 : RL.Env → SRes := (sRet (sCallF 3 f_is_among (sCons (sCl (sIx (sVarB 1) (sC (.int 2)))) (sCons (sC (.int 1)) (sCons (s2 opSub (sIx (sVarB 1) (sC (.int 0))) (sC (.int 1))) sNil)))))
def t_is_paper_6 : RL.Env → SRes := (sIfS (sTest (s2 opEq (sIx (sVarB 1) (sC (.int 1))) (sC (.str "void")))) t_is_paper_5 sNext)
def t_is_paper_7 : RL.Env → SRes := (sRet (sCallF 2 f_is_in (sCons (sCl (sIx (sVarB 1) (sC (.int 2)))) (sCons (sMeth "races" tab_races 1 (sVar 0) sNil) sNil))))
def b_is_paper : RL.Env → SRes := (sThen t_is_paper_0
    (sThen t_is_paper_3
    (sThen t_is_paper_4
    (sThen t_is_paper_6
    t_is_paper_7))))
def f_is_paper : List D → FR := runDef 2 [] b_is_paper
def t_need_paper_0 : RL.Env → SRes := (sIfS (sNot (sTest (sCallF 2 f_is_paper (sCons (sVar 0) (sCons (sVar 1) sNil))))) (sRaise "BadPaper") sNext)
def b_need_paper : RL.Env → SRes := t_need_paper_0
def f_need_paper : List D → FR := runDef 2 [] b_need_paper
end RW
namespace RW
open PySem RL RM RG RQ
open RT (kits kitS whole_eq isWhole time_eq isTime f_is_whole f_is_time)
structure At (d : D) : Prop where
  ty : (tyName d).isSome = true
  cl : d.clean = true
  fz : d.frz = d
theorem At.nm {d : D} (h : At d) : ∃ t, tyName d = some t := Option.isSome_iff_exists.mp h.ty
def wh (d : D) (lo hi : Int) : Bool := match d with
  | .int i => decide (lo ≤ i) && decide (i ≤ hi)
  | _ => false
theorem whole_at {d : D} (h : At d) : f_is_whole [d] = .ok (.bl (isWhole d)) [] := by
  obtain ⟨t, ht⟩ := h.nm
  exact whole_eq ht
theorem among_eq {d : D} (h : At d) {lo hi : Int} : f_is_among [d, .int lo, .int hi] = .ok (.bl (wh d lo hi)) [] := by
  have w := whole_at h
  have c := h.cl
  have f := h.fz
  have ty := h.ty
  rw [f_is_among, runDef_ap]
  cases d with
  | int i =>
    simp [b_is_among, t_is_among_0, entry, w, wh, isWhole]
    by_cases q : lo ≤ i <;> simp [q]
  | _ => first | (simp [b_is_among, t_is_among_0, entry, w, wh, isWhole, c, f]; done) | simp [tyName] at ty
theorem time_at {d : D} (h : At d) : f_is_time [d] = .ok (.bl (wh d 0 359999)) [] := by
  obtain ⟨t, ht⟩ := h.nm
  rw [time_eq ht h.cl h.fz]
  have : isTime d = wh d 0 359999 := by cases d <;> rfl
  rw [this]
abbrev words4 : List Str := ["finish", "code", "cost", "help"]
abbrev hows : List Str := ["every", "ahead"]
def told (x : RcT) (w : Str) (d : D) : Bool := if w = wFin then wh d x.2.2.1 359999 else if w = wCost then wh d 1 20 else if w = wCode then isIn d codes else isIn d hows
theorem is_in_t {xs : List Str} {d : D} (h : At d) : f_is_in [d, .tup (xs.map .str)] = .ok (.bl (isIn d xs)) [] := by
  have ty := h.ty
  have t := isTy_str ty
  rw [RG.f_is_in, runDef_ap]
  cases d with
  | str s => simp [RG.b_is_in, RG.t_is_in_0, entry, t, in_strsT, isIn]
  | _ => first | (simp [RG.b_is_in, RG.t_is_in_0, entry, t, isIn]; done) | simp [tyName] at ty
theorem w_ne : wFin ≠ wCost ∧ wFin ≠ wCode ∧ wFin ≠ wHelp ∧ wCost ≠ wCode ∧ wCost ≠ wHelp ∧ wCode ≠ wHelp ∧ wOff ≠ wVoid := by decide +kernel
theorem w_no : wVoid ∉ words4 ∧ wOff ∉ words4 := by decide +kernel
theorem key_one {α β : Type} {k : α → β} : ∀ {xs : List α} {x y : α}, (xs.map k).Nodup → x ∈ xs → y ∈ xs → k x = k y → x = y
  | [], _, _, _, h, _, _ => by cases h
  | z :: zs, x, y, nd, hx, hy, e => by
    obtain ⟨n1, n2⟩ := List.nodup_cons.mp nd
    rcases List.mem_cons.mp hx with e1 | h1
    · rcases List.mem_cons.mp hy with e2 | h2
      · rw [e1, e2]
      · exact absurd (by rw [← e1, e]; exact List.mem_map_of_mem h2) n1
    · rcases List.mem_cons.mp hy with e2 | h2
      · exact absurd (by rw [← e2, ← e]; exact List.mem_map_of_mem h1) n1
      · exact key_one n2 h1 h2 e
section
variable {m : Mt} {nb nr : Nat}
theorem told_eq (g : Good nb nr m) {x : RcT} (hx : x ∈ m.rs) {w : Str} (hw : w ∈ words4) {d : D} (h : At d) : f_is_told [obj m, .str w, .str x.1, d] = .ok (.bl (told x w d)) [] := by
  have c := h.cl
  have f := h.fz
  have a := among_eq h (lo := 1) (hi := 20)
  have t := time_at h
  obtain ⟨n1, n2, n3, n4, n5, n6, n7⟩ := w_ne
  rw [f_is_told, runDef_ap, show entry 4 [obj m, .str w, .str x.1, d] = [some (obj m), some (.str w), some (.str x.1), some d] from rfl]
  by_cases h1 : w = wFin
  · have e : sMeth "race" tab_race 2 (sVar 0) (sCons (sVar 2) sNil) [some (obj m), some (.str w), some (.str x.1), some d] = .ok (raceD x) := by
      refine (meth1 (o := false) (m := m) (ds := [.str x.1]) race_m (by simp) (by simp) rfl).trans ?_
      simp [race_eq g hx]
    have ix : opIx (raceD x) (.int 2) = some (.int x.2.2.1) := rfl
    have r0 := (g.rok x hx).2.1
    subst h1
    cases d with
    | int i =>
      simp [b_is_told, t_is_told_1, t_is_told_0, e, ix, told, t, wh, -sMeth_ap]
      by_cases q : 0 ≤ i
      · by_cases q2 : i ≤ 359999 <;> simp [q, q2]
      · have : ¬ x.2.2.1 ≤ i := by omega
        simp [q, this]
    | _ => simp [b_is_told, t_is_told_1, t_is_told_0, told, t, wh, c, f, -sMeth_ap]
  · by_cases h2 : w = wCost
    · subst h2
      simp [b_is_told, t_is_told_1, t_is_told_2, t_is_told_3, told, a, c, f, h1]
    · by_cases h3 : w = wCode
      · subst h3
        have k : fKd kd_TOLD (.str wCode) = some (.tup (codes.map .str)) := rfl
        have i := is_in_t (xs := codes) h
        have cc : (D.tup (codes.map .str)).clean = true := by simp
        have ff : (D.tup (codes.map .str)).frz = .tup (codes.map .str) := by rw [D.frz, frzL_strs]
        generalize D.tup (codes.map .str) = T at *
        simp [b_is_told, t_is_told_1, t_is_told_3, t_is_told_4, told, c, f, h1, h2, k, i, ff]
      · have h4 : w = wHelp := by
          simp only [words4, List.mem_cons, List.not_mem_nil, or_false] at hw
          rcases hw with h | h | h | h
          · exact absurd h h1
          · exact absurd h h3
          · exact absurd h h2
          · exact h
        subst h4
        have k : fKd kd_TOLD (.str wHelp) = some (.tup (hows.map .str)) := rfl
        have i := is_in_t (xs := hows) h
        have ff : (D.tup (hows.map .str)).frz = .tup (hows.map .str) := by rw [D.frz, frzL_strs]
        generalize D.tup (hows.map .str) = T at *
        simp [b_is_told, t_is_told_1, t_is_told_3, t_is_told_4, told, c, f, h1, h2, h3, k, i, ff]
def inRace (m : Mt) (w : Str) (c s t : D) : Bool := match c with
  | .str x => m.rs.any fun r => decide (r.1 = x) && (isIn s ((sailsOf m r.2.1).map fun b => b.1) && told r w t)
  | _ => false
theorem any_one (g : Good nb nr m) {x : RcT} (hx : x ∈ m.rs) {p : RcT → Bool} : (m.rs.any fun r => decide (r.1 = x.1) && p r) = p x := by
  rw [Bool.eq_iff_iff, List.any_eq_true]
  constructor
  · rintro ⟨r, hr, h⟩
    rw [Bool.and_eq_true, decide_eq_true_eq] at h
    have : r = x := by
      have nd := g.rnd
      exact key_one nd hr hx h.1
    rw [← this]
    exact h.2
  · intro h
    exact ⟨x, hx, by simp [h]⟩
def isP (m : Mt) : D → Bool
  | .tup (.int n :: .str w :: c :: r) => wh (.int n) 1 9999 && (if w = wVoid then decide (r.length = 0) && wh c 1 (n - 1) else if w = wOff then decide (r.length = 0) && isIn c (m.rs.map fun r => r.1) else match r with
    | [s, t] => decide (w ∈ words4) && inRace m w c s t
    | _ => false)
  | _ => false
abbrev E2 (m : Mt) (xs : List D) : RL.Env := [some (obj m), some (.tup xs)]
theorem kT : L2.kitB "NoneType" "tuple" = some false ∧ L2.kitB "bool" "tuple" = some false ∧ L2.kitB "int" "tuple" = some false ∧ L2.kitB "str" "tuple" = some false ∧ L2.kitB "tuple" "tuple" = some true ∧ L2.kitB "list" "tuple" = some false ∧ L2.kitB "dict" "tuple" = some false := by decide +kernel
theorem isTy_tup {d : D} (h : (tyName d).isSome = true) : fIsTy "tuple" d = some (.bl (match d with | .tup _ => true | _ => false)) := by
  obtain ⟨k1, k2, k3, k4, k5, k6, k7⟩ := kT
  cases d <;> simp [tyName] at h <;> simp [fIsTy, tyName, k1, k2, k3, k4, k5, k6, k7]
theorem isP_len {xs : List D} (h : xs.length < 3) : isP m (.tup xs) = false := by
  match xs, h with
  | [], _ => rfl
  | [a], _ => cases a <;> rfl
  | [a, b], _ => cases a <;> first | rfl | (cases b <;> rfl)
theorem isP_no {d : D} (h : ∀ xs, d ≠ .tup xs) : isP m d = false := by
  cases d <;> first | rfl | exact absurd rfl (h _)
theorem isP_a {a b c : D} {r : List D} (h : wh a 1 9999 = false) : isP m (.tup (a :: b :: c :: r)) = false := by
  cases a <;> first | rfl | (cases b <;> first | rfl | simp [isP, h])
theorem wh_int {a : D} {lo hi : Int} (h : wh a lo hi = true) : ∃ i, a = .int i ∧ lo ≤ i ∧ i ≤ hi := by
  cases a <;> simp [wh] at h
  exact ⟨_, rfl, h⟩
theorem isIn_str {d : D} {xs : List Str} (h : isIn d xs = true) : ∃ s, d = .str s ∧ s ∈ xs := by
  cases d <;> simp [isIn] at h
  exact ⟨_, rfl, h⟩
theorem r_e0 {a b c : D} {r : List D} (ha : At a) : t_is_paper_0 (E2 m (a :: b :: c :: r)) = if wh a 1 9999 = true then .nx (E2 m (a :: b :: c :: r)) else .rt (.bl false) (E2 m (a :: b :: c :: r)) := by
  have w := among_eq ha (lo := 1) (hi := 9999)
  have t := isTy_tup (d := .tup (a :: b :: c :: r)) rfl
  have i0 : opIx (.tup (a :: b :: c :: r)) (.int 0) = some a := by simp
  have l : ¬ ((r.length : Int) + 1 + 1 + 1 < 3) := by omega
  have c0 := ha.cl
  have f0 := ha.fz
  generalize wh a 1 9999 = q at *
  rw [t_is_paper_0, sIfS_ap]
  have : (sOrT (sNot (sTest (s1 (fIsTy "tuple") (sVarB 1)))) (sOrT (sTest (s2 opLt (sCall (on1 fLenX) (sCons (sVarB 1) sNil)) (sC (.int 3)))) (sNot (sTest (sCallF 3 f_is_among (sCons (sCl (sIx (sVarB 1) (sC (.int 0)))) (sCons (sC (.int 1)) (sCons (sC (.int 9999)) sNil)))))))) (E2 m (a :: b :: c :: r)) = .ok (!q) := by
    simp [t, i0, l, c0, f0, w, -opIx_t]
  rw [this]
  cases q <;> simp
theorem word_case {b : D} : (isIn b ["off", "void"] = true ∧ (b = .str wOff ∨ b = .str wVoid)) ∨ (isIn b ["off", "void"] = false ∧ b ≠ .str wOff ∧ b ≠ .str wVoid) := by
  cases q : isIn b ["off", "void"] with
  | true =>
    obtain ⟨s, rfl, h⟩ := isIn_str q
    refine .inl ⟨rfl, ?_⟩
    simp only [List.mem_cons, List.not_mem_nil, or_false] at h
    rcases h with rfl | rfl
    · exact .inl rfl
    · exact .inr rfl
  | false =>
    refine .inr ⟨rfl, ?_, ?_⟩
    · rintro rfl
      exact absurd q (by decide +kernel)
    · rintro rfl
      exact absurd q (by decide +kernel)
theorem len_two {r : List D} (h : r.length = 2) : ∃ s t, r = [s, t] := by
  match r, h with
  | [s, t], _ => exact ⟨s, t, rfl⟩
abbrev S3 : RL.Env → SRes := sThen t_is_paper_1 t_is_paper_2
theorem r_boat (g : Good nb nr m) (hb : nb ≤ 10000) {n : Int} {b c : D} {r : List D} (hbA : At b) (hc : At c) (hr : ∀ x ∈ r, At x) (h1 : b ≠ .str wOff) (h2 : b ≠ .str wVoid) (hn : 1 ≤ n) (hn2 : n ≤ 9999) : S3 (E2 m (.int n :: b :: c :: r)) = .rt (.bl (isP m (.tup (.int n :: b :: c :: r)))) (E2 m (.int n :: b :: c :: r)) := by
  have w := is_in_t (xs := words4) hbA
  have rc := is_in_L (xs := m.rs.map fun r => r.1) (o := false) hc.ty
  have cb := hbA.cl
  have fb := hbA.fz
  have cc := hc.cl
  have fc := hc.fz
  have i1 : opIx (.tup (.int n :: b :: c :: r)) (.int 1) = some b := by simp
  have i2 : opIx (.tup (.int n :: b :: c :: r)) (.int 2) = some c := by simp
  have wT : (D.tup (words4.map .str)).frz = .tup (words4.map .str) := by rw [D.frz, frzL_strs]
  have eR : sMeth "races" tab_races 1 (sVar 0) sNil (E2 m (.int n :: b :: c :: r)) = .ok (.lst true ((m.rs.map fun r => r.1).map .str)) := by
    refine (meth1 (o := false) (m := m) (ds := []) (by decide +kernel) (by simp) (by simp) rfl).trans ?_
    simp [races_eq]
  have fR : (D.lst true ((m.rs.map fun r => r.1).map .str)).frz = .lst false ((m.rs.map fun r => r.1).map .str) := by rw [D.frz, frzL_strs]
  by_cases hl : r.length = 2
  · obtain ⟨s, t, rfl⟩ := len_two hl
    have eR' := eR
    generalize hRR : D.lst true ((m.rs.map fun r => r.1).map .str) = RR at *
    have t1 : t_is_paper_1 (E2 m [.int n, b, c, s, t]) = if isIn b words4 = true ∧ isIn c (m.rs.map fun r => r.1) = true then .nx (E2 m [.int n, b, c, s, t]) else .rt (.bl false) (E2 m [.int n, b, c, s, t]) := by
      generalize hWW : D.tup (words4.map .str) = WW at *
      have hW2 : (.tup [.str "finish", .str "code", .str "cost", .str "help"]) = WW := hWW
      generalize isIn b words4 = q1 at *
      generalize isIn c (m.rs.map fun r => r.1) = q2 at *
      have ne : opNe (.int (((0 : Nat) : Int) + 1 + 1 + 1 + 1 + 1)) (.int 5) = some (.bl false) := rfl
      rw [t_is_paper_1, sIfS_ap]
      have : (sOrT (sTest (s2 opNe (sCall (on1 fLenX) (sCons (sVarB 1) sNil)) (sC (.int 5)))) (sOrT (sNot (sTest (sCallF 2 f_is_in (sCons (sCl (sIx (sVarB 1) (sC (.int 1)))) (sCons (sC (.tup [.str "finish", .str "code", .str "cost", .str "help"])) sNil))))) (sNot (sTest (sCallF 2 f_is_in (sCons (sCl (sIx (sVarB 1) (sC (.int 2)))) (sCons (sMeth "races" tab_races 1 (sVar 0) sNil) sNil))))))) (E2 m [.int n, b, c, s, t]) = .ok (!(q1 && q2)) := by
        rw [hW2]
        cases q1 <;> cases q2 <;> simp [i1, i2, cb, fb, cc, fc, w, wT, rc, eR, fR, -opIx_t, -sMeth_ap, -List.map_map, opNe, strs?, D.fit, fitN, D.py, PyData.eqv]
      rw [this]
      cases q1 <;> cases q2 <;> simp
    cases q1 : isIn b words4 with
    | false =>
      have : isP m (.tup [.int n, b, c, s, t]) = false := by
        cases b <;> first | rfl | skip
        rename_i x
        have n1 : x ≠ wVoid := fun e => h2 (by rw [e])
        have n2 : x ≠ wOff := fun e => h1 (by rw [e])
        have n3 : x ∉ words4 := by simpa [isIn] using q1
        simp only [isP, n1, n2, if_false, n3, decide_false, Bool.false_and, Bool.and_false]
      rw [S3, sThen_ap, t1, this]
      simp [q1]
    | true =>
      obtain ⟨x, rfl, hx⟩ := isIn_str q1
      have n1 : x ≠ wVoid := fun e => h2 (by rw [e])
      have n2 : x ≠ wOff := fun e => h1 (by rw [e])
      have p0 : isP m (.tup [.int n, .str x, c, s, t]) = inRace m x c s t := by
        simp only [isP, n1, n2, if_false, hx, decide_true, Bool.true_and, wh, hn, hn2]
      rw [p0]
      cases q2 : isIn c (m.rs.map fun r => r.1) with
      | false =>
        have : inRace m x c s t = false := by
          cases c <;> first | rfl | skip
          rename_i y
          have : y ∉ m.rs.map fun r => r.1 := by simpa [isIn] using q2
          rw [inRace, List.any_eq_false]
          intro r hr z
          rw [Bool.and_eq_true, decide_eq_true_eq] at z
          exact this (z.1 ▸ List.mem_map_of_mem hr)
        rw [S3, sThen_ap, t1, this]
        simp [q1, q2]
      | true =>
        obtain ⟨y, rfl, hy⟩ := isIn_str q2
        obtain ⟨rc0, hrc, rfl⟩ := List.mem_map.mp hy
        have hs := hr s (by simp)
        have ht := hr t (by simp)
        have te := told_eq g hrc hx ht
        have en : sMeth "entered" tab_entered 2 (sVar 0) (sCons (sCl (sIx (sVarB 1) (sC (.int 2)))) sNil) (E2 m [.int n, .str x, .str rc0.1, s, t]) = .ok (.lst true ((sailsOf m rc0.2.1).map fun b => .str b.1)) := by
          refine (meth1 (o := false) (m := m) (ds := [.str rc0.1]) (by decide +kernel) (by simp) (by simp [i2, -opIx_t]) rfl).trans ?_
          simp [entered_eq g hb hrc]
        have ii := is_in_L (xs := (sailsOf m rc0.2.1).map fun b => b.1) (o := false) hs.ty
        have fL : (D.lst true ((sailsOf m rc0.2.1).map fun b : BtT => D.str b.1)).frz = .lst false (((sailsOf m rc0.2.1).map fun b => b.1).map .str) := by
          rw [D.frz, List.map_map, frzL_map]; rfl
        have i3 : opIx (.tup [.int n, .str x, .str rc0.1, s, t]) (.int 3) = some s := rfl
        have i4 : opIx (.tup [.int n, .str x, .str rc0.1, s, t]) (.int 4) = some t := rfl
        have p1 : inRace m x (.str rc0.1) s t = (isIn s ((sailsOf m rc0.2.1).map fun b => b.1) && told rc0 x t) := any_one g hrc
        rw [p1, S3, sThen_ap, t1, if_pos ⟨q1, q2⟩, andThen_nx, t_is_paper_2, sRet_ap]
        have cs := hs.cl
        have fs := hs.fz
        have ct := ht.cl
        have ft := ht.fz
        generalize hLL : D.lst true ((sailsOf m rc0.2.1).map fun b : BtT => D.str b.1) = LL at *
        generalize hq : isIn s ((sailsOf m rc0.2.1).map fun b => b.1) = q at *
        cases q <;> simp [i1, i2, i3, i4, cs, fs, ct, ft, en, fL, ii, te, -opIx_t, -sMeth_ap, -List.map_map]
  · have ne : opNe (.int ((r.length : Int) + 1 + 1 + 1)) (.int 5) = some (.bl true) := by
      have : ¬ ((r.length : Int) + 1 + 1 + 1 = 5) := by omega
      simp [opNe, strs?, D.fit, fitN, D.py, PyData.eqv, this]
    have : isP m (.tup (.int n :: b :: c :: r)) = false := by
      cases b <;> first | rfl | skip
      rename_i x
      have n1 : x ≠ wVoid := fun e => h2 (by rw [e])
      have n2 : x ≠ wOff := fun e => h1 (by rw [e])
      simp only [isP, n1, n2, if_false]
      match r, hl with
      | [], _ => simp
      | [s], _ => simp
      | s :: t :: u :: r, _ => simp
    rw [this, S3, sThen_ap, t_is_paper_1]
    simp [ne]
theorem is_paper_eq (g : Good nb nr m) (hb : nb ≤ 10000) {d : D} (h : At d) (hx : ∀ xs, d = .tup xs → ∀ x ∈ xs, At x) : f_is_paper [obj m, d] = .ok (.bl (isP m d)) [] := by
  have t := isTy_tup h.ty
  rw [f_is_paper, runDef_ap, show entry 2 [obj m, d] = [some (obj m), some d] from rfl]
  by_cases ht : ∃ xs, d = .tup xs
  · obtain ⟨xs, rfl⟩ := ht
    have hA := hx xs rfl
    match xs, hA with
    | [], _ => simp [b_is_paper, t_is_paper_0, t, isP_len]
    | [a], _ => simp [b_is_paper, t_is_paper_0, t, isP_len]
    | [a, b], _ => simp [b_is_paper, t_is_paper_0, t, isP_len]
    | a :: b :: c :: r, hA =>
      have ha := hA a (by simp)
      have hbA := hA b (by simp)
      have hc := hA c (by simp)
      have hr : ∀ x ∈ r, At x := fun x hx => hA x (by simp [hx])
      have e0 := r_e0 (m := m) (b := b) (c := c) (r := r) ha
      show endF [] (b_is_paper (E2 m (a :: b :: c :: r))) = _
      rw [b_is_paper, sThen_ap, e0]
      cases q : wh a 1 9999 with
      | false => simp [isP_a q]
      | true =>
        obtain ⟨n, rfl, n1, n2⟩ := wh_int q
        rw [if_pos rfl, andThen_nx, sThen_ap]
        have io := is_in_L (xs := ["off", "void"]) (o := false) hbA.ty
        have cb := hbA.cl
        have fb := hbA.fz
        have i1 : opIx (.tup (.int n :: b :: c :: r)) (.int 1) = some b := by simp
        have h2 : 2 ≤ sizeLine := by decide
        have e3 : t_is_paper_3 (E2 m (.int n :: b :: c :: r)) = if isIn b ["off", "void"] = true then .nx (E2 m (.int n :: b :: c :: r)) else S3 (E2 m (.int n :: b :: c :: r)) := by
          rw [t_is_paper_3, sIfS_ap]
          have : (sNot (sTest (sCallF 2 f_is_in (sCons (sCl (sIx (sVarB 1) (sC (.int 1)))) (sCons (sLst (sCons (sC (.str "off")) (sCons (sC (.str "void")) sNil))) sNil))))) (E2 m (.int n :: b :: c :: r)) = .ok (!(isIn b ["off", "void"])) := by
            have io' : f_is_in [b, .lst false [.str "off", .str "void"]] = .ok (.bl (isIn b ["off", "void"])) [] := io
            simp [i1, cb, fb, h2, io', -opIx_t]
          rw [this]
          cases isIn b ["off", "void"] <;> simp
        rcases word_case (b := b) with ⟨w1, w2⟩ | ⟨w1, w2, w3⟩
        · rw [e3, if_pos w1, andThen_nx, sThen_ap]
          have i2 : opIx (.tup (.int n :: b :: c :: r)) (.int 2) = some c := by simp
          have i0 : opIx (.tup (.int n :: b :: c :: r)) (.int 0) = some (.int n) := by simp
          have cc := hc.cl
          have fc := hc.fz
          by_cases hl : r = []
          · subst hl
            have e4 : t_is_paper_4 (E2 m [.int n, b, c]) = .nx (E2 m [.int n, b, c]) := by
              simp [t_is_paper_4, opNe, strs?, D.fit, fitN, D.py, PyData.eqv]
            rw [e4, andThen_nx]
            rcases w2 with rfl | rfl
            · have rc := is_in_L (xs := m.rs.map fun r => r.1) (o := false) hc.ty
              have eR : sMeth "races" tab_races 1 (sVar 0) sNil (E2 m [.int n, .str wOff, c]) = .ok (.lst true ((m.rs.map fun r => r.1).map .str)) := by
                refine (meth1 (o := false) (m := m) (ds := []) (by decide +kernel) (by simp) (by simp) rfl).trans ?_
                simp [races_eq]
              have fR : (D.lst true ((m.rs.map fun r => r.1).map .str)).frz = .lst false ((m.rs.map fun r => r.1).map .str) := by rw [D.frz, frzL_strs]
              generalize D.lst true ((m.rs.map fun r => r.1).map .str) = RR at *
              have nv := w_ne.2.2.2.2.2.2
              have p : isP m (.tup [.int n, .str wOff, c]) = isIn c (m.rs.map fun r => r.1) := by
                simp [isP, wh, n1, n2, nv]
              rw [p]
              simp [t_is_paper_6, t_is_paper_7, i1, i2, nv, cc, fc, eR, fR, rc, -opIx_t, -sMeth_ap, -List.map_map]
            · have am := among_eq hc (lo := 1) (hi := n - 1)
              have p : isP m (.tup [.int n, .str wVoid, c]) = wh c 1 (n - 1) := by
                simp [isP, n1, n2]
                intro _
                exact (wh_int q).elim fun i h => by simp [wh, n1, n2]
              rw [p]
              simp [t_is_paper_6, t_is_paper_5, i0, i1, i2, cc, fc, am, -opIx_t]
          · have ne : opNe (.int ((r.length : Int) + 1 + 1 + 1)) (.int 3) = some (.bl true) := by
              have : 0 < r.length := List.length_pos_iff.mpr hl
              have : ¬ ((r.length : Int) + 1 + 1 + 1 = 3) := by omega
              simp [opNe, strs?, D.fit, fitN, D.py, PyData.eqv, this]
            have : isP m (.tup (.int n :: b :: c :: r)) = false := by
              rcases w2 with rfl | rfl
              · simp [isP, hl, w_ne.2.2.2.2.2.2]
              · simp [isP, hl]
            rw [this, t_is_paper_4]
            simp [ne]
        · rw [e3, w1, if_neg (by simp), r_boat g hb hbA hc hr w2 w3 n1 n2]
          rfl
  · have : isP m d = false := isP_no fun xs e => ht ⟨xs, e⟩
    have t2 : fIsTy "tuple" d = some (.bl false) := by
      rw [t]
      cases d <;> first | rfl | exact absurd ⟨_, rfl⟩ ht
    rw [this]
    simp [b_is_paper, t_is_paper_0, t2]
abbrev badPaper : D := .exn "BadPaper" [] []
theorem need_paper_eq (g : Good nb nr m) (hb : nb ≤ 10000) {d : D} (h : At d) (hx : ∀ xs, d = .tup xs → ∀ x ∈ xs, At x) : f_need_paper [obj m, d] = if isP m d = true then .ok .non [] else .exc badPaper [] := by
  have p := is_paper_eq g hb h hx
  have c := h.cl
  have f := h.fz
  rw [f_need_paper, runDef_ap]
  generalize isP m d = q at *
  cases q <;> simp [b_need_paper, t_need_paper_0, entry, c, f, p]
end
end RW
namespace RE
open PySem RL
open RT (f_time_text)
open RR (f_number_in f_time_in)
open RW (f_need_paper)
open RV (f__law_time_text)
def l__law_text_0 : RL.Env → Res D := (sLc (sIter (sVar 0)) (.nm 2) [2] sYes (sCall (on1 fStr) (sCons (sVarB 2) sNil)))
def t__law_text_1 : RL.Env → SRes := (sAsg (.nm 1) false l__law_text_0)
def t__law_text_2 : RL.Env → SRes := (sSetL (plVar 1) (sC (.int 4)) (sCallF 1 f__law_time_text (sCons (sCl (sIx (sVarB 0) (sC (.int 4)))) sNil)))
def t__law_text_3 : RL.Env → SRes := (sIfS (sTest (s2 opEq (sIx (sVarB 0) (sC (.int 1))) (sC (.str "finish")))) t__law_text_2 sNext)
def t__law_text_4 : RL.Env → SRes := (sRet (sM1 fJoin (sC (.str " ")) (sVarB 1)))
def b__law_text : RL.Env → SRes := (sThen t__law_text_1
    (sThen t__law_text_3
    t__law_text_4))
def f__law_text : List D → FR := runDef 3 [] b__law_text
def l_paper_text_0 : RL.Env → Res D := (sLc (sIter (sVar 0)) (.nm 2) [2] sYes (sCall (on1 fStr) (sCons (sVarB 2) sNil)))
def t_paper_text_1 : RL.Env → SRes := (sAsg (.nm 1) false l_paper_text_0)
def t_paper_text_2 : RL.Env → SRes := (sSetL (plVar 1) (s1 fNeg (sC (.int 1))) (sCallF 1 f_time_text (sCons (sCl (sIx (sVarB 0) (s1 fNeg (sC (.int 1))))) sNil)))
def t_paper_text_3 : RL.Env → SRes := (sIfS (sTest (s2 opEq (sIx (sVarB 0) (sC (.int 1))) (sC (.str "finish")))) t_paper_text_2 sNext)
def t_paper_text_4 : RL.Env → SRes := (sRet (sM1 fJoin (sC (.str " ")) (sVarB 1)))
def b_paper_text : RL.Env → SRes := (sThen t_paper_text_1
    (sThen t_paper_text_3
    t_paper_text_4))
def f_paper_text : List D → FR := runDef 3 [] b_paper_text
def t_paper_read_0 : RL.Env → SRes := (sIfS (sNot (sTest (s1 (fIsTy "str") (sVarB 1)))) (sRaise "BadPaper") sNext)
def t_paper_read_1 : RL.Env → SRes := (sAsg (.nm 2) true (sM1 fSplit (sVarB 1) (sC (.str " "))))
def t_paper_read_2 : RL.Env → SRes := (sAsg (.nm 3) false (s2 opAdd (sLst (sCons (sCallF 1 f_number_in (sCons (sCl (sIx (sVarB 2) (sC (.int 0)))) sNil)) sNil)) (sSl (sVarB 2) (sPs (sC (.int 1))) sPn)))
def t_paper_read_3 : RL.Env → SRes := (sSetL (plVar 3) (s1 fNeg (sC (.int 1))) (sCallF 1 f_number_in (sCons (sCl (sIx (sVarB 2) (s1 fNeg (sC (.int 1))))) sNil)))
def t_paper_read_4 : RL.Env → SRes := (sIfS (sAndT (sTest (s2 opGt (sCall (on1 fLenX) (sCons (sVarB 2) sNil)) (sC (.int 2)))) (sTest (s2 oIn (sIx (sVarB 2) (sC (.int 1))) (sTup (sCons (sC (.str "cost")) (sCons (sC (.str "void")) sNil)))))) t_paper_read_3 sNext)
def t_paper_read_5 (sb : List (Str × Bool)) : RL.Env → SRes := (sSetL (plVar 3) (s1 fNeg (sC (.int 1))) (sCallF 1 (f_time_in sb) (sCons (sCl (sIx (sVarB 2) (s1 fNeg (sC (.int 1))))) sNil)))
def t_paper_read_6 (sb : List (Str × Bool)) : RL.Env → SRes := (sIfS (sAndT (sTest (s2 opGt (sCall (on1 fLenX) (sCons (sVarB 2) sNil)) (sC (.int 2)))) (sTest (s2 opEq (sIx (sVarB 2) (sC (.int 1))) (sC (.str "finish"))))) (t_paper_read_5 sb) sNext)
def t_paper_read_7 : RL.Env → SRes := (sAsg (.nm 4) true (sCall (on1 fTuple) (sCons (sVarB 3) sNil)))
def t_paper_read_8 : RL.Env → SRes := (sExpr (sCallF 2 f_need_paper (sCons (sVar 0) (sCons (sVar 4) sNil))))
def b_paper_read (sb : List (Str × Bool)) : RL.Env → SRes := (sThen t_paper_read_0
    (sThen t_paper_read_1
    (sThen t_paper_read_2
    (sThen t_paper_read_4
    (sThen (t_paper_read_6 sb)
    (sThen t_paper_read_7
    (sThen t_paper_read_8
    (sRet (sVar 4)))))))))
def f_paper_read (sb : List (Str × Bool)) : List D → FR := runDef 5 [] (b_paper_read sb)
end RE
namespace RE
open PySem RL RM RG RQ RW RX
open RR (numIn number_in_eq optD timeIn time_in_eq numIn_le)
open RT (isStr strTy)
abbrev sp : Str := " "
theorem spl_ne (S : List Nat) : ∀ (l : List Nat) (k : Nat) (acc : List Nat), TL.spl S k acc l ≠ []
  | [], k, acc => by rw [TL.spl_nil]; simp
  | c :: r, 0, acc => by
    cases e : TL.pre S (c :: r) with
    | true => rw [TL.spl_hit e]; simp
    | false => rw [TL.spl_miss e]; exact spl_ne S r 0 _
  | c :: r, k + 1, acc => by
    rw [TL.spl_pass, List.drop_succ_cons, ← TL.spl_pass]
    exact spl_ne S r k acc
theorem kind_sp (x : Str) : ¬ Builtin.Str.strKind x < Builtin.Str.strKind sp := by
  have : Builtin.Str.strKind sp = 1 := by decide +kernel
  rw [this]
  unfold Builtin.Str.strKind
  split <;> (try split) <;> omega
abbrev wds (x : Str) : List Str := Txt.split x sp
theorem wds_tl (x : Str) : (wds x).map TL.tl = TL.spl [32] 0 [] (TL.tl x) := by
  have := TL.split_spl x sp (by decide +kernel) (kind_sp x)
  rw [this, show TL.tl sp = [32] from by decide +kernel]
theorem wds_ne (x : Str) : wds x ≠ [] := fun z => by
  have := wds_tl x
  rw [z] at this
  exact spl_ne _ _ _ _ this.symm
theorem wds_len {x w : Str} (h : w ∈ wds x) : w.length ≤ x.length := by
  have hm : TL.tl w ∈ (wds x).map TL.tl := List.mem_map.mpr ⟨w, h, rfl⟩
  rw [wds_tl] at hm
  have := RT.spl_len hm
  simpa [Str.length, TL.tl] using this
theorem wds_ok {x w : Str} (h : w ∈ wds x) (hx : PyData.strOk x = true) : PyData.strOk w = true := split_ok (s := sp) (by decide +kernel) (kind_sp x) h hx
theorem wds_few (x : Str) : (wds x).length ≤ x.length + 1 := by
  have := congrArg List.length (wds_tl x)
  rw [List.length_map] at this
  rw [this]
  have := RR.spl_count (TL.tl x) 0 []
  simpa [Str.length, TL.tl] using this
theorem split_wds {x : Str} (hx : x.length ≤ 10000) : fSplit x (.str " ") = some (.lst true ((wds x).map .str)) := by
  have cl : (" " : Str).length ≠ 0 := by decide +kernel
  show (if _ then _ else _) = _
  rw [if_pos ⟨cl, by unfold sizeLine; omega⟩]
def lastD (w1 l : Str) : D := if w1 = wCost ∨ w1 = wVoid then optD (numIn l) else if w1 = wFin then optD (timeIn l) else .str l
def thingsOf : List Str → List D
  | [] => []
  | [w0] => [optD (numIn w0)]
  | w0 :: w1 :: r => if h : r = [] then [optD (numIn w0), .str w1] else optD (numIn w0) :: .str w1 :: (r.dropLast.map .str ++ [lastD w1 (r.getLast h)])
theorem things_nil {w0 w1 : Str} : thingsOf [w0, w1] = [optD (numIn w0), .str w1] := rfl
theorem things_two {w0 w1 l : Str} {r : List Str} : thingsOf (w0 :: w1 :: (r ++ [l])) = optD (numIn w0) :: .str w1 :: (r.map .str ++ [lastD w1 l]) := by
  have h : r ++ [l] ≠ [] := by simp
  show (if h : r ++ [l] = [] then _ else _) = _
  rw [dif_neg h, List.dropLast_concat, List.getLast_concat]
theorem ends {α : Type} (r : List α) : r = [] ∨ ∃ s l, r = s ++ [l] := by
  by_cases h : r = []
  · exact .inl h
  · exact .inr ⟨r.dropLast, r.getLast h, (List.dropLast_concat_getLast h).symm⟩
theorem opt_at (o : Option Int) : At (optD o) := by cases o <;> exact ⟨rfl, rfl, rfl⟩
theorem str_at (s : Str) : At (.str s) := ⟨rfl, rfl, rfl⟩
theorem last_at (w l : Str) : At (lastD w l) := by
  unfold lastD
  split
  · exact opt_at _
  · split
    · exact opt_at _
    · exact str_at _
theorem things_at : ∀ {ws : List Str}, ∀ d ∈ thingsOf ws, At d
  | [], d, h => by simp [thingsOf] at h
  | [w0], d, h => by
    simp only [thingsOf, List.mem_cons, List.not_mem_nil, or_false] at h
    rw [h]; exact opt_at _
  | w0 :: w1 :: r, d, h => by
    rcases ends r with rfl | ⟨s, l, rfl⟩
    · rw [things_nil] at h
      simp only [List.mem_cons, List.not_mem_nil, or_false] at h
      rcases h with rfl | rfl
      · exact opt_at _
      · exact str_at _
    · rw [things_two] at h
      simp only [List.mem_cons, List.mem_append, List.mem_map, List.not_mem_nil, or_false] at h
      rcases h with rfl | rfl | ⟨s, hs, rfl⟩ | rfl
      · exact opt_at _
      · exact str_at _
      · exact str_at _
      · exact last_at _ _
theorem things_len : ∀ {ws : List Str}, (thingsOf ws).length = ws.length
  | [] => rfl
  | [w0] => rfl
  | w0 :: w1 :: r => by
    rcases ends r with rfl | ⟨s, l, rfl⟩
    · rfl
    · rw [things_two]
      simp
theorem cl_strs (ws : List Str) : cleanL (ws.map D.str) = true := cleanL_of (fun _ => rfl) _
theorem at_cl {ds : List D} (h : ∀ d ∈ ds, At d) : cleanL ds = true := cleanL_all.mpr fun d hd => (h d hd).cl
theorem at_fz : ∀ {xs : List D}, (∀ x ∈ xs, At x) → frzL xs = xs
  | [], _ => by simp
  | x :: xs, h => by
    rw [frzL_cons, (h x List.mem_cons_self).fz, at_fz fun y hy => h y (List.mem_cons_of_mem _ hy)]
section
variable {m : Mt} {nb nr : Nat}
abbrev ED (m : Mt) (x : Str) (ws : List Str) (t f : Option D) : RL.Env := [some (obj m), some (.str x), some (.lst false (ws.map .str)), t, f]
theorem ixw {o : Bool} {ws : List Str} {i : Int} {s : Str} (h : L2.atI ws i = some s) : opIx (.lst o (ws.map .str)) (.int i) = some (.str s) := by
  show L2.atI (ws.map D.str) i = _
  unfold L2.atI at h ⊢
  rw [List.length_map]
  cases hx : L2.ixN ws.length i with
  | none => rw [hx] at h; cases h
  | some j =>
    rw [hx] at h
    simp only [Option.bind_some] at h ⊢
    rw [List.getElem?_map, h]
    rfl
theorem ix_last {α : Type} {xs : List α} {x : α} : L2.atI (xs ++ [x]) (-1) = some x := by
  have h : L2.ixN (xs.length + 1) (-1) = some xs.length := by
    unfold L2.ixN
    rw [if_neg (by decide), if_pos (by omega)]
    congr 1
    omega
  unfold L2.atI
  rw [List.length_append, List.length_singleton, h]
  simp
theorem set_last {xs : List D} {x d : D} (h : cleanL (xs ++ [x]) = true) (hd : d.clean = true) : setL (.int (-1)) d (.lst true (xs ++ [x])) = some (.lst true (xs ++ [d])) := by
  have h2 : L2.ixN (xs.length + 1) (-1) = some xs.length := by
    unfold L2.ixN
    rw [if_neg (by decide), if_pos (by omega)]
    congr 1
    omega
  show (if _ then _ else _) = _
  rw [if_pos ⟨h, hd⟩, List.length_append, List.length_singleton, h2]
  simp
theorem p_e2 {x w0 : Str} {r : List Str} (h0 : w0.length ≤ 1000) (hl : r.length ≤ 10000) : t_paper_read_2 (ED m x (w0 :: r) none none) = .nx (ED m x (w0 :: r) (some (.lst true (optD (numIn w0) :: r.map .str))) none) := by
  have n0 := number_in_eq h0
  have i0 : opIx (.lst false ((w0 :: r).map .str)) (.int 0) = some (.str w0) := ixw (by rw [atI_0])
  have sl : opSl (.lst false ((w0 :: r).map .str)) (some 1) none = some (.lst true (r.map .str)) := by
    have c := cut_n0 ((w0 :: r).map D.str) 1
    have c' : cutL ((w0 :: r).map D.str) (some 1) none = r.map .str := c
    rw [opSl_l (cl_strs _), c']
  have ad : opAdd (.lst true [optD (numIn w0)]) (.lst true (r.map .str)) = some (.lst true ([optD (numIn w0)] ++ r.map .str)) := opAdd_l (by simp [(opt_at _).cl]) (cl_strs _) (by simp only [List.length_cons, List.length_nil, List.length_map]; show 0 + 1 + r.length ≤ sizeLine; unfold sizeLine; omega)
  have h1 : 1 ≤ sizeLine := by decide
  generalize numIn w0 = q at *
  generalize r.map D.str = R at *
  simp only [List.map_cons] at i0 sl
  have oc := (opt_at q).cl
  generalize optD q = O at *
  simp [t_paper_read_2, n0, i0, sl, ad, h1]
abbrev mid (w0 w1 l : Str) (r : List Str) : List D := optD (numIn w0) :: .str w1 :: (r.map .str ++ [if w1 = wCost ∨ w1 = wVoid then optD (numIn l) else .str l])
abbrev all' (w0 w1 l : Str) (r : List Str) : List Str := w0 :: w1 :: (r ++ [l])
theorem last_all {w0 w1 l : Str} {r : List Str} {o : Bool} : opIx (.lst o ((all' w0 w1 l r).map .str)) (.int (-1)) = some (.str l) := ixw (by
  have := ix_last (xs := w0 :: w1 :: r) (x := l)
  simpa using this)
theorem one_all {w0 w1 l : Str} {r : List Str} {o : Bool} : opIx (.lst o ((all' w0 w1 l r).map .str)) (.int 1) = some (.str w1) := ixw (by
  unfold L2.atI L2.ixN
  have h : (1 : Int) < ((all' w0 w1 l r).length : Int) := by simp; omega
  rw [if_pos (by decide), if_pos h]
  rfl)
theorem len_all {w0 w1 l : Str} {r : List Str} {o : Bool} : fLenX (.lst o ((all' w0 w1 l r).map .str)) = some (.int ((r.length : Int) + 3)) := by
  rw [fLenX_else (by intro o ks ds h; cases h)]
  show some (D.int _) = _
  congr 2
  simp
  omega
theorem in_cv {w1 : Str} : oIn (.str w1) (.tup [.str "cost", .str "void"]) = some (.bl (decide (w1 = wCost ∨ w1 = wVoid))) := by
  have e := in_strsT (xs := [wCost, wVoid]) (x := w1)
  simpa using e
abbrev bare (w0 w1 l : Str) (r : List Str) : List D := optD (numIn w0) :: .str w1 :: (r.map .str ++ [.str l])
theorem bare_at {w0 w1 l : Str} {r : List Str} : ∀ d ∈ bare w0 w1 l r, At d := by
  intro d h
  simp only [bare, List.mem_cons, List.mem_append, List.mem_map, List.not_mem_nil, or_false] at h
  rcases h with rfl | rfl | ⟨s, hs, rfl⟩ | rfl
  · exact opt_at _
  · exact str_at _
  · exact str_at _
  · exact str_at _
theorem mid_at {w0 w1 l : Str} {r : List Str} : ∀ d ∈ mid w0 w1 l r, At d := by
  intro d h
  simp only [mid, List.mem_cons, List.mem_append, List.mem_map, List.not_mem_nil, or_false] at h
  rcases h with rfl | rfl | ⟨s, hs, rfl⟩ | rfl
  · exact opt_at _
  · exact str_at _
  · exact str_at _
  · split
    · exact opt_at _
    · exact str_at _
theorem p_e4 {x w0 w1 l : Str} {r : List Str} (hl : l.length ≤ 1000) : t_paper_read_4 (ED m x (all' w0 w1 l r) (some (.lst true (bare w0 w1 l r))) none) = .nx (ED m x (all' w0 w1 l r) (some (.lst true (mid w0 w1 l r))) none) := by
  have i1 := one_all (w0 := w0) (w1 := w1) (l := l) (r := r) (o := false)
  have i2 := last_all (w0 := w0) (w1 := w1) (l := l) (r := r) (o := false)
  have ln := len_all (w0 := w0) (w1 := w1) (l := l) (r := r) (o := false)
  have iv := in_cv (w1 := w1)
  have n1 : fNeg (.int 1) = some (.int (-1)) := rfl
  have nl := number_in_eq hl
  have g2 : (2 : Int) < (r.length : Int) + 1 + 1 + 1 := by omega
  have h2 : 2 ≤ sizeLine := by decide
  have st : setL (.int (-1)) (optD (numIn l)) (.lst true (bare w0 w1 l r)) = some (.lst true (optD (numIn w0) :: .str w1 :: (r.map .str ++ [optD (numIn l)]))) := set_last (xs := optD (numIn w0) :: .str w1 :: r.map .str) (x := .str l) (at_cl (bare_at (w0 := w0) (w1 := w1) (l := l) (r := r))) (opt_at _).cl
  by_cases c : w1 = wCost ∨ w1 = wVoid
  · rw [decide_eq_true c] at iv
    have e : mid w0 w1 l r = optD (numIn w0) :: .str w1 :: (r.map .str ++ [optD (numIn l)]) := by rw [mid, if_pos c]
    rw [e]
    have e3 : t_paper_read_3 (ED m x (all' w0 w1 l r) (some (.lst true (bare w0 w1 l r))) none) = .nx (ED m x (all' w0 w1 l r) (some (.lst true (optD (numIn w0) :: .str w1 :: (r.map .str ++ [optD (numIn l)])))) none) := by
      refine sSetL_ap (d := optD (numIn l)) (k := .int (-1)) (p := ⟨.lst true (bare w0 w1 l r), fun d' => ED m x (all' w0 w1 l r) (some d') none⟩) ?_ rfl (by simp [n1]) st
      simp only [all', List.map_cons, List.map_append, List.map_nil] at i2
      simp [n1, i2, nl, -opIx_l]
    generalize D.lst false ((all' w0 w1 l r).map .str) = WS at *
    generalize D.lst true (bare w0 w1 l r) = BB at *
    rw [t_paper_read_4]
    simp [ln, g2, i1, iv, h2, e3]
  · rw [decide_eq_false c] at iv
    have e : mid w0 w1 l r = bare w0 w1 l r := by rw [mid, if_neg c]
    rw [e]
    generalize D.lst false ((all' w0 w1 l r).map .str) = WS at *
    generalize D.lst true (bare w0 w1 l r) = BB at *
    rw [t_paper_read_4]
    simp [ln, g2, i1, iv, h2]
theorem p_e6 {sb : List (Str × Bool)} (hs : subGo sb "BadTime" = some true) {x w0 w1 l : Str} {r : List Str} (hl : l.length ≤ 1000) : t_paper_read_6 sb (ED m x (all' w0 w1 l r) (some (.lst true (mid w0 w1 l r))) none) = .nx (ED m x (all' w0 w1 l r) (some (.lst true (thingsOf (all' w0 w1 l r)))) none) := by
  have i1 := one_all (w0 := w0) (w1 := w1) (l := l) (r := r) (o := false)
  have i2 := last_all (w0 := w0) (w1 := w1) (l := l) (r := r) (o := false)
  have ln := len_all (w0 := w0) (w1 := w1) (l := l) (r := r) (o := false)
  have n1 : fNeg (.int 1) = some (.int (-1)) := rfl
  have nl := time_in_eq hs hl
  have g2 : (2 : Int) < (r.length : Int) + 1 + 1 + 1 := by omega
  rw [all', things_two]
  have st : setL (.int (-1)) (optD (timeIn l)) (.lst true (mid w0 w1 l r)) = some (.lst true (optD (numIn w0) :: .str w1 :: (r.map .str ++ [optD (timeIn l)]))) := set_last (xs := optD (numIn w0) :: .str w1 :: r.map .str) (at_cl (mid_at (w0 := w0) (w1 := w1) (l := l) (r := r))) (opt_at _).cl
  have wn := w_ne
  by_cases c : w1 = wFin
  · subst c
    have c1 : ¬ (wFin = wCost ∨ wFin = wVoid) := by decide +kernel
    have eL : lastD wFin l = optD (timeIn l) := by rw [lastD, if_neg c1, if_pos rfl]
    rw [eL]
    have e3 : t_paper_read_5 sb (ED m x (all' w0 wFin l r) (some (.lst true (mid w0 wFin l r))) none) = .nx (ED m x (all' w0 wFin l r) (some (.lst true (optD (numIn w0) :: (.str wFin) :: (r.map .str ++ [optD (timeIn l)])))) none) := by
      refine sSetL_ap (d := optD (timeIn l)) (k := .int (-1)) (p := ⟨.lst true (mid w0 wFin l r), fun d' => ED m x (all' w0 wFin l r) (some d') none⟩) ?_ rfl (by simp [n1]) st
      simp only [all', List.map_cons, List.map_append, List.map_nil] at i2
      simp [n1, i2, nl, -opIx_l]
    generalize D.lst false ((all' w0 wFin l r).map .str) = WS at *
    generalize D.lst true (mid w0 wFin l r) = BB at *
    rw [t_paper_read_6]
    simp [ln, g2, i1, e3]
  · have eM : mid w0 w1 l r = optD (numIn w0) :: .str w1 :: (r.map .str ++ [lastD w1 l]) := by
      rw [mid, lastD]
      by_cases c1 : w1 = wCost ∨ w1 = wVoid
      · rw [if_pos c1, if_pos c1]
      · rw [if_neg c1, if_neg c1, if_neg c]
    rw [← eM]
    generalize D.lst false ((all' w0 w1 l r).map .str) = WS at *
    generalize D.lst true (mid w0 w1 l r) = BB at *
    rw [t_paper_read_6]
    simp [ln, g2, i1, c]
theorem p_end (g : Good nb nr m) (hb : nb ≤ 10000) {x : Str} {ws : List Str} {ds : List D} (h : ∀ d ∈ ds, At d) (hl : ds.length ≤ 10000) :
    (sThen t_paper_read_7 (sThen t_paper_read_8 (sRet (sVar 4)))) (ED m x ws (some (.lst true ds)) none) = if isP m (.tup ds) = true then .rt (.tup ds) (ED m x ws (some (.lst true ds)) (some (.tup ds))) else .exc badPaper (ED m x ws (some (.lst true ds)) (some (.tup ds))) := by
  have nd := need_paper_eq g hb (d := .tup ds) ⟨rfl, by simp [at_cl h], by simp [at_fz h]⟩ (fun xs e => by cases e; exact h)
  have ft : fTuple (.lst true ds) = some (.tup ds) := by simp [fTuple, at_cl h]
  have cl := at_cl h
  have fz := at_fz h
  have ct : (D.tup ds).clean = true := by simp [cl]
  have cf : (D.tup ds).frz = .tup ds := by simp [fz]
  have e7 : t_paper_read_7 (ED m x ws (some (.lst true ds)) none) = .nx (ED m x ws (some (.lst true ds)) (some (.tup ds))) := by
    generalize D.lst true ds = L at *
    generalize D.tup ds = T at *
    simp [t_paper_read_7, ft, cf]
  rw [sThen_ap, e7, andThen_nx, sThen_ap]
  cases q : isP m (.tup ds) with
  | true =>
    rw [q, if_pos rfl] at nd
    rw [if_pos rfl]
    generalize D.lst true ds = L at *
    generalize D.tup ds = T at *
    simp [t_paper_read_8, ct, cf, nd]
  | false =>
    rw [q, if_neg (by simp)] at nd
    rw [if_neg (by simp)]
    generalize D.lst true ds = L at *
    generalize D.tup ds = T at *
    simp [t_paper_read_8, ct, cf, nd]
theorem p_str {x : Str} : t_paper_read_0 [some (obj m), some (.str x), none, none, none] = .nx [some (obj m), some (.str x), none, none, none] := by
  have t := strTy (d := .str x) (t := "str") rfl
  simp [t_paper_read_0, t, isStr]
theorem paper_read_no {sb : List (Str × Bool)} {d : D} (h : At d) (hs : isStr d = false) : f_paper_read sb [obj m, d] = .exc badPaper [] := by
  obtain ⟨t, ht⟩ := h.nm
  have t := strTy ht
  rw [hs] at t
  have e0 : t_paper_read_0 [some (obj m), some d, none, none, none] = .exc badPaper [some (obj m), some d, none, none, none] := by
    simp [t_paper_read_0, t, badPaper]
  rw [f_paper_read, runDef_ap, show entry 5 [obj m, d] = [some (obj m), some d, none, none, none] from rfl]
  unfold b_paper_read
  rw [sThen_ap, e0]
  rfl
theorem paper_read_eq (g : Good nb nr m) (hb : nb ≤ 10000) {sb : List (Str × Bool)} (hs : subGo sb "BadTime" = some true) {x : Str} (hx : x.length ≤ 1000) : f_paper_read sb [obj m, .str x] = if isP m (.tup (thingsOf (wds x))) = true then .ok (.tup (thingsOf (wds x))) [] else .exc badPaper [] := by
  have sp' := split_wds (x := x) (by omega)
  have hl : ∀ w ∈ wds x, w.length ≤ 1000 := fun w hw => Nat.le_trans (wds_len hw) hx
  have few : (wds x).length ≤ 1001 := Nat.le_trans (wds_few x) (by omega)
  have ne := wds_ne x
  rw [f_paper_read, runDef_ap, show entry 5 [obj m, .str x] = [some (obj m), some (.str x), none, none, none] from rfl]
  unfold b_paper_read
  rw [sThen_ap, p_str, andThen_nx, sThen_ap]
  have e1 : t_paper_read_1 [some (obj m), some (.str x), none, none, none] = .nx (ED m x (wds x) none none) := by
    simp [t_paper_read_1, sp', D.frz, frzL_strs]
  rw [e1, andThen_nx]
  generalize wds x = ws at *
  have fin : ∀ {ds : List D}, (∀ d ∈ ds, At d) → ds.length ≤ 10000 → endF [] ((sThen t_paper_read_7 (sThen t_paper_read_8 (sRet (sVar 4)))) (ED m x ws (some (.lst true ds)) none)) = if isP m (.tup ds) = true then .ok (.tup ds) [] else .exc badPaper [] := fun h hl => by
    rw [p_end g hb h hl]
    split <;> rfl
  have tl := things_len (ws := ws)
  have ta := things_at (ws := ws)
  match ws, ne with
  | [w0], _ =>
    have e2 := p_e2 (m := m) (x := x) (w0 := w0) (r := []) (hl w0 (by simp)) (by simp)
    rw [sThen_ap, e2, andThen_nx]
    have e4 : t_paper_read_4 (ED m x [w0] (some (.lst true (optD (numIn w0) :: [].map .str))) none) = .nx (ED m x [w0] (some (.lst true (thingsOf [w0]))) none) := by
      generalize h : D.lst true (optD (numIn w0) :: [].map .str) = L
      rw [show D.lst true (thingsOf [w0]) = L from h]
      simp [t_paper_read_4]
    have e6 : t_paper_read_6 sb (ED m x [w0] (some (.lst true (thingsOf [w0]))) none) = .nx (ED m x [w0] (some (.lst true (thingsOf [w0]))) none) := by
      generalize D.lst true (thingsOf [w0]) = L
      simp [t_paper_read_6]
    rw [sThen_ap, e4, andThen_nx, sThen_ap, e6, andThen_nx]
    exact fin ta (by omega)
  | w0 :: w1 :: r, _ =>
    rcases ends r with rfl | ⟨s, l, rfl⟩
    · have e2 := p_e2 (m := m) (x := x) (w0 := w0) (r := [w1]) (hl w0 (by simp)) (by simp)
      rw [sThen_ap, e2, andThen_nx]
      have e4 : t_paper_read_4 (ED m x [w0, w1] (some (.lst true (optD (numIn w0) :: [w1].map .str))) none) = .nx (ED m x [w0, w1] (some (.lst true (thingsOf [w0, w1]))) none) := by
        generalize h : D.lst true (optD (numIn w0) :: [w1].map .str) = L
        rw [show D.lst true (thingsOf [w0, w1]) = L from h]
        simp [t_paper_read_4]
      have e6 : t_paper_read_6 sb (ED m x [w0, w1] (some (.lst true (thingsOf [w0, w1]))) none) = .nx (ED m x [w0, w1] (some (.lst true (thingsOf [w0, w1]))) none) := by
        generalize D.lst true (thingsOf [w0, w1]) = L
        simp [t_paper_read_6]
      rw [sThen_ap, e4, andThen_nx, sThen_ap, e6, andThen_nx]
      exact fin ta (by omega)
    · have e2 := p_e2 (m := m) (x := x) (w0 := w0) (r := w1 :: (s ++ [l])) (hl w0 (by simp)) (by simp at few ⊢; omega)
      have eb : optD (numIn w0) :: (w1 :: (s ++ [l])).map D.str = bare w0 w1 l s := by simp
      rw [eb] at e2
      rw [sThen_ap, e2, andThen_nx, sThen_ap, p_e4 (hl l (by simp)), andThen_nx, sThen_ap, p_e6 hs (hl l (by simp)), andThen_nx]
      exact fin ta (by rw [tl]; omega)
end
end RE
namespace RE
open PySem RL RM RG RQ RW RX
open RR (numIn number_in_eq optD timeIn time_in_eq numIn_le Wd nm_wd num_wd ttxt_wd num_in)
open RT (num ttxt)
open RV (num_str join_wd)
def ppL : Pp → List D
  | (n, .fin r s t) => [.int n, .str wFin, .str r, .str s, .int t]
  | (n, .code r s c) => [.int n, .str wCode, .str r, .str s, .str c]
  | (n, .cost r s k) => [.int n, .str wCost, .str r, .str s, .int k]
  | (n, .help r s h) => [.int n, .str wHelp, .str r, .str s, .str h]
  | (n, .off r) => [.int n, .str wOff, .str r]
  | (n, .void o) => [.int n, .str wVoid, .int o]
theorem ppD_L (p : Pp) : ppD p = .tup (ppL p) := by
  obtain ⟨n, p⟩ := p
  cases p <;> rfl
def ppW : Pp → List Str
  | (n, .fin r s t) => [num n.toNat, wFin, r, s, ttxt t.toNat]
  | (n, .code r s c) => [num n.toNat, wCode, r, s, c]
  | (n, .cost r s k) => [num n.toNat, wCost, r, s, num k.toNat]
  | (n, .help r s h) => [num n.toNat, wHelp, r, s, h]
  | (n, .off r) => [num n.toNat, wOff, r]
  | (n, .void o) => [num n.toNat, wVoid, num o.toNat]
theorem word_wd : ∀ w ∈ [wFin, wCode, wCost, wHelp, wOff, wVoid] ++ codes ++ hows, Wd w := by
  have c : ∀ w ∈ [wFin, wCode, wCost, wHelp, wOff, wVoid] ++ codes ++ hows, TL.tl w ≠ [] ∧ (TL.tl w).all (fun c => decide (c ≠ 32 ∧ c ≠ 35 ∧ c ≠ 9 ∧ c ≠ 10 ∧ c < 256)) = true ∧ w.length ≤ 100 := by decide +kernel
  intro w hw
  obtain ⟨h1, h2, h3⟩ := c w hw
  exact ⟨h1, fun c hc => by simpa using List.all_eq_true.mp h2 c hc, h3⟩
abbrev textP (p : Pp) : Str := Txt.join sp (ppW p)
section
variable {m : Mt} {nb nr : Nat}
theorem ppW_wd (g : Good nb nr m) {n k : Int} {p : Pk} (hn : 1 ≤ n) (hn2 : n ≤ 9999) (hk : k ≤ 10000) (h : PkOk m k p) : (∀ w ∈ ppW (n, p), Wd w) ∧ (ppW (n, p)).length ≤ 5 ∧ ppW (n, p) ≠ [] := by
  have w0 : Wd (num n.toNat) := num_wd (by omega)
  have key : ∀ w ∈ [wFin, wCode, wCost, wHelp, wOff, wVoid], Wd w := fun w hw => word_wd w (by simp only [List.mem_append]; exact .inl (.inl hw))
  have cd : ∀ w ∈ codes, Wd w := fun w hw => word_wd w (by simp only [List.mem_append]; exact .inl (.inr hw))
  have hw' : ∀ w ∈ hows, Wd w := fun w hw => word_wd w (by simp only [List.mem_append]; exact .inr hw)
  have race : ∀ {x : RcT}, x ∈ m.rs → Wd x.1 := fun hx => nm_wd (g.rnm _ hx)
  have sail : ∀ {f : Str} {b : BtT}, b ∈ sailsOf m f → Wd b.1 := fun hb => nm_wd (g.bnm _ (List.mem_filter.mp hb).1)
  cases p with
  | fin r s t =>
    obtain ⟨x, hx, rfl, ⟨b, hb, rfl⟩, h1, h2⟩ := h
    have := (g.rok x hx).2.1
    refine ⟨fun w hw => ?_, by simp [ppW], by simp [ppW]⟩
    simp only [ppW, List.mem_cons, List.not_mem_nil, or_false] at hw
    rcases hw with rfl | rfl | rfl | rfl | rfl
    · exact w0
    · exact key _ (by simp)
    · exact race hx
    · exact sail hb
    · exact ttxt_wd (by omega)
  | code r s c =>
    obtain ⟨x, hx, rfl, ⟨b, hb, rfl⟩, hc⟩ := h
    refine ⟨fun w hw => ?_, by simp [ppW], by simp [ppW]⟩
    simp only [ppW, List.mem_cons, List.not_mem_nil, or_false] at hw
    rcases hw with rfl | rfl | rfl | rfl | rfl
    · exact w0
    · exact key _ (by simp)
    · exact race hx
    · exact sail hb
    · exact cd _ hc
  | cost r s k =>
    obtain ⟨x, hx, rfl, ⟨b, hb, rfl⟩, h1, h2⟩ := h
    refine ⟨fun w hw => ?_, by simp [ppW], by simp [ppW]⟩
    simp only [ppW, List.mem_cons, List.not_mem_nil, or_false] at hw
    rcases hw with rfl | rfl | rfl | rfl | rfl
    · exact w0
    · exact key _ (by simp)
    · exact race hx
    · exact sail hb
    · exact num_wd (by omega)
  | help r s k =>
    obtain ⟨x, hx, rfl, ⟨b, hb, rfl⟩, hc⟩ := h
    have hk : k ∈ hows := by rcases hc with rfl | rfl <;> simp
    refine ⟨fun w hw => ?_, by simp [ppW], by simp [ppW]⟩
    simp only [ppW, List.mem_cons, List.not_mem_nil, or_false] at hw
    rcases hw with rfl | rfl | rfl | rfl | rfl
    · exact w0
    · exact key _ (by simp)
    · exact race hx
    · exact sail hb
    · exact hw' _ hk
  | off r =>
    obtain ⟨x, hx, rfl⟩ := h
    refine ⟨fun w hw => ?_, by simp [ppW], by simp [ppW]⟩
    simp only [ppW, List.mem_cons, List.not_mem_nil, or_false] at hw
    rcases hw with rfl | rfl | rfl
    · exact w0
    · exact key _ (by simp)
    · exact race hx
  | void o =>
    obtain ⟨h1, h2⟩ := h
    refine ⟨fun w hw => ?_, by simp [ppW], by simp [ppW]⟩
    simp only [ppW, List.mem_cons, List.not_mem_nil, or_false] at hw
    rcases hw with rfl | rfl | rfl
    · exact w0
    · exact key _ (by simp)
    · exact num_wd (by omega)
theorem wds_join {ws : List Str} (h : ∀ w ∈ ws, Wd w) (hn : ws ≠ []) : wds (Txt.join sp ws) = ws := by
  apply RR.tl_inj
  have e := wds_tl (Txt.join sp ws)
  have j : TL.tl (Txt.join sp ws) = TL.joinL [32] (ws.map TL.tl) := by
    rw [TL.join_eq, TL.tl_join, show TL.tl sp = [32] from by decide +kernel]
  rw [j, TL.spl_join (by simpa using hn) (fun p hp => by
    obtain ⟨w, hw, rfl⟩ := List.mem_map.mp hp
    exact fun z => ((h w hw).ok 32 z).1 rfl)] at e
  exact e
theorem things_pp (g : Good nb nr m) {n k : Int} {p : Pk} (hn : 1 ≤ n) (hn2 : n ≤ 9999) (hk : k ≤ 10000) (h : PkOk m k p) : thingsOf (ppW (n, p)) = ppL (n, p) := by
  have ni : ∀ {i : Int}, 0 ≤ i → i ≤ 9999 → optD (numIn (num i.toNat)) = .int i := fun {i} a b => by
    rw [num_in (by omega)]
    show D.int _ = _
    congr 1
    omega
  have n0 := ni (i := n) (by omega) hn2
  have two : ∀ {a b c : Str}, thingsOf [a, b, c] = [optD (numIn a), .str b, lastD b c] := fun {a b c} => things_two (r := [])
  have four : ∀ {a b c d e : Str}, thingsOf [a, b, c, d, e] = [optD (numIn a), .str b, .str c, .str d, lastD b e] := fun {a b c d e} => things_two (r := [c, d])
  have c1 : ∀ w ∈ [wFin, wCode, wHelp, wOff], ¬ (w = wCost ∨ w = wVoid) := by decide +kernel
  have c2 : ∀ w ∈ [wCode, wHelp, wOff], ¬ w = wFin := by decide +kernel
  cases p with
  | fin r s t =>
    obtain ⟨x, hx, rfl, ⟨b, hb, rfl⟩, h1, h2⟩ := h
    have := (g.rok x hx).2.1
    have ti : optD (timeIn (ttxt t.toNat)) = .int t := by
      have e : timeIn (ttxt t.toNat) = some ((t.toNat : Nat) : Int) := RT.tread_ttxt (by omega)
      rw [e]
      show D.int _ = _
      congr 1
      omega
    show thingsOf [_, _, _, _, _] = _
    rw [four, n0, lastD, if_neg (c1 _ (by simp)), if_pos rfl, ti]
    rfl
  | code r s c =>
    show thingsOf [_, _, _, _, _] = _
    rw [four, n0, lastD, if_neg (c1 _ (by simp)), if_neg (c2 _ (by simp))]
    rfl
  | cost r s k =>
    obtain ⟨x, hx, rfl, ⟨b, hb, rfl⟩, h1, h2⟩ := h
    show thingsOf [_, _, _, _, _] = _
    rw [four, n0, lastD, if_pos (.inl rfl), ni (by omega) (by omega)]
    rfl
  | help r s k =>
    show thingsOf [_, _, _, _, _] = _
    rw [four, n0, lastD, if_neg (c1 _ (by simp)), if_neg (c2 _ (by simp))]
    rfl
  | off r =>
    show thingsOf [_, _, _] = _
    rw [two, n0, lastD, if_neg (c1 _ (by simp)), if_neg (c2 _ (by simp))]
    rfl
  | void o =>
    obtain ⟨h1, h2⟩ := h
    show thingsOf [_, _, _] = _
    rw [two, n0, lastD, if_pos (.inr rfl), ni (by omega) (by omega)]
    rfl
theorem pp_isP (g : Good nb nr m) {n : Int} {p : Pk} (hn : 1 ≤ n) (hn2 : n ≤ 9999) (h : PkOk m n p) : isP m (ppD (n, p)) = true := by
  have w1 : wh (.int n) 1 9999 = true := by simp [wh, hn, hn2]
  have rc : ∀ {x : RcT} {w : Str} {b : BtT} {t : D}, x ∈ m.rs → b ∈ sailsOf m x.2.1 → told x w t = true → inRace m w (.str x.1) (.str b.1) t = true := fun {x w b t} hx hb ht => by
    rw [inRace, any_one g hx (p := fun r => isIn (.str b.1) ((sailsOf m r.2.1).map fun b => b.1) && told r w t), ht, Bool.and_true]
    exact decide_eq_true (List.mem_map.mpr ⟨b, hb, rfl⟩)
  have wn := w_ne
  have v : ∀ w ∈ words4, ¬ w = wVoid ∧ ¬ w = wOff := by decide +kernel
  have go : ∀ {w : Str} {c s t : D}, w ∈ words4 → inRace m w c s t = true → isP m (.tup [.int n, .str w, c, s, t]) = true := fun {w c s t} hw hi => by
    show (wh (.int n) 1 9999 && _) = true
    rw [w1, Bool.true_and, if_neg (v w hw).1, if_neg (v w hw).2]
    show (decide (w ∈ words4) && inRace m w c s t) = true
    rw [decide_eq_true hw, hi]
    rfl
  cases p with
  | fin r s t =>
    obtain ⟨x, hx, rfl, ⟨b, hb, rfl⟩, h1, h2⟩ := h
    refine go (by simp) (rc hx hb ?_)
    rw [told, if_pos rfl]
    simp [wh, h1, h2]
  | code r s c =>
    obtain ⟨x, hx, rfl, ⟨b, hb, rfl⟩, hc⟩ := h
    refine go (by simp) (rc hx hb ?_)
    rw [told, if_neg (fun z => wn.2.1 z.symm), if_neg (fun z => wn.2.2.2.1 z.symm), if_pos rfl]
    exact decide_eq_true hc
  | cost r s k =>
    obtain ⟨x, hx, rfl, ⟨b, hb, rfl⟩, h1, h2⟩ := h
    refine go (by simp) (rc hx hb ?_)
    rw [told, if_neg (fun z => wn.1 z.symm), if_pos rfl]
    simp [wh, h1, h2]
  | help r s k =>
    obtain ⟨x, hx, rfl, ⟨b, hb, rfl⟩, hc⟩ := h
    refine go (by simp) (rc hx hb ?_)
    rw [told, if_neg (fun z => wn.2.2.1 z.symm), if_neg (fun z => wn.2.2.2.2.1 z.symm), if_neg (fun z => wn.2.2.2.2.2.1 z.symm)]
    exact decide_eq_true (by rcases hc with rfl | rfl <;> simp)
  | off r =>
    obtain ⟨x, hx, rfl⟩ := h
    show (wh (.int n) 1 9999 && _) = true
    rw [w1, Bool.true_and, if_neg wn.2.2.2.2.2.2, if_pos rfl]
    show (true && isIn (.str x.1) _) = true
    rw [Bool.true_and]
    exact decide_eq_true (List.mem_map.mpr ⟨x, hx, rfl⟩)
  | void o =>
    obtain ⟨h1, h2⟩ := h
    show (wh (.int n) 1 9999 && _) = true
    rw [w1, Bool.true_and, if_pos rfl]
    simp [wh, h1]
    omega
end
end RE
namespace RE
open PySem RL RM RG RQ RW RX
open RR (Wd)
open RT (num ttxt)
open RV (num_str join_wd)
def ppW0 : Pp → List Str
  | (n, .fin r s t) => [num n.toNat, wFin, r, s, num t.toNat]
  | p => ppW p
section
variable {m : Mt} {nb nr : Nat}
theorem strs_run {ds : List D} {ws : List Str} (h : ds.map fStr = ws.map fun w => some (.str w)) : lcRun (fun d => (opt (fStr d)).bind fun x => .ok (some x)) ds = some (ws.map .str) := by
  induction ds generalizing ws with
  | nil =>
    cases ws with
    | nil => rfl
    | cons _ _ => simp at h
  | cons d ds ih =>
    cases ws with
    | nil => simp at h
    | cons w ws =>
      simp only [List.map_cons, List.cons.injEq] at h
      simp [lcRun, h.1, ih h.2]
theorem fStr_big {t : Int} (h : 0 ≤ t) (h2 : t ≤ 359999) : fStr (.int t) = some (.str (num t.toNat)) := by
  have sm : sml t = true := (show Bd 40 t by unfold Bd; omega).sml (by decide)
  show (if _ then _ else _) = _
  rw [if_pos sm]
  unfold num
  rw [show ((t.toNat : Nat) : Int) = t by omega]
theorem strs_pp (g : Good nb nr m) {n k : Int} {p : Pk} (hn : 1 ≤ n) (hn2 : n ≤ 9999) (hk : k ≤ 10000) (h : PkOk m k p) : (ppL (n, p)).map fStr = (ppW0 (n, p)).map fun w => some (.str w) := by
  have s0 := num_str (i := n) (by omega) hn2
  cases p with
  | fin r s t =>
    obtain ⟨x, hx, rfl, ⟨b, hb, rfl⟩, h1, h2⟩ := h
    have := (g.rok x hx).2.1
    have s1 := fStr_big (t := t) (by omega) h2
    simp only [ppL, ppW0, List.map_cons, List.map_nil, s0, s1]
    rfl
  | code r s c =>
    simp only [ppL, ppW0, ppW, List.map_cons, List.map_nil, s0]
    rfl
  | cost r s k =>
    obtain ⟨x, hx, rfl, ⟨b, hb, rfl⟩, h1, h2⟩ := h
    have s1 := num_str (i := k) (by omega) (by omega)
    simp only [ppL, ppW0, ppW, List.map_cons, List.map_nil, s0, s1]
    rfl
  | help r s k =>
    simp only [ppL, ppW0, ppW, List.map_cons, List.map_nil, s0]
    rfl
  | off r =>
    simp only [ppL, ppW0, ppW, List.map_cons, List.map_nil, s0]
    rfl
  | void o =>
    obtain ⟨h1, h2⟩ := h
    have s1 := num_str (i := o) (by omega) (by omega)
    simp only [ppL, ppW0, ppW, List.map_cons, List.map_nil, s0, s1]
    rfl
theorem ppL_cl (p : Pp) : cleanL (ppL p) = true := by
  obtain ⟨n, p⟩ := p
  cases p <;> simp [ppL]
theorem ppL_len (p : Pp) : (ppL p).length ≤ 5 := by
  obtain ⟨n, p⟩ := p
  cases p <;> simp [ppL]
abbrev ET (p : Pp) (w : Option D) : RL.Env := [some (ppD p), w, none]
theorem lt_0 (g : Good nb nr m) {n k : Int} {p : Pk} (hn : 1 ≤ n) (hn2 : n ≤ 9999) (hk : k ≤ 10000) (h : PkOk m k p) : l_paper_text_0 (ET (n, p) none) = .ok (.lst true ((ppW0 (n, p)).map .str)) := by
  have r := strs_run (strs_pp g hn hn2 hk h)
  have cl := ppL_cl (n, p)
  have ln := ppL_len (n, p)
  have eD := ppD_L (n, p)
  refine sLc_ok (ds := ppL (n, p)) ?_ (by unfold sizeLine; omega) ?_
  · rw [ET, eD]
    generalize ppL (n, p) = L at *
    simp [cl]
  · have e : (lcOne (.nm 2) [2] sYes (sCall (on1 fStr) (sCons (sVarB 2) sNil)) (ET (n, p) none)) = fun d => (opt (fStr d)).bind fun x => .ok (some x) := by
      funext d
      simp [lcOne, wipeE, Tg.set]
    rw [e]
    exact r
theorem lt_0' : l__law_text_0 = l_paper_text_0 := rfl
theorem fin_eq (g : Good nb nr m) {n k : Int} {p : Pk} (hn : 1 ≤ n) (hn2 : n ≤ 9999) (h : PkOk m k p) :
    t_paper_text_3 (ET (n, p) (some (.lst true ((ppW0 (n, p)).map .str)))) = .nx (ET (n, p) (some (.lst true ((ppW (n, p)).map .str)))) ∧
    t__law_text_3 (ET (n, p) (some (.lst true ((ppW0 (n, p)).map .str)))) = .nx (ET (n, p) (some (.lst true ((ppW (n, p)).map .str)))) := by
  have n1 : fNeg (.int 1) = some (.int (-1)) := rfl
  have i1 : opIx (ppD (n, p)) (.int 1) = some (.str p.word) := p1 (n, p)
  have c2 : ∀ w ∈ [wCode, wCost, wHelp, wOff, wVoid], ¬ w = wFin := by decide +kernel
  by_cases q : p.word = wFin
  · cases p with
    | fin r s t =>
      obtain ⟨x, hx, rfl, ⟨b, hb, rfl⟩, h1, h2⟩ := h
      have := (g.rok x hx).2.1
      have te := RT.text_eq (t := t.toNat) (by omega)
      have le := RV.ltime_eq (t := t.toNat) (by omega)
      rw [show ((t.toNat : Nat) : Int) = t by omega] at te le
      have iL : opIx (ppD (n, Pk.fin x.1 b.1 t)) (.int (-1)) = some (.int t) := rfl
      have i4 : opIx (ppD (n, Pk.fin x.1 b.1 t)) (.int 4) = some (.int t) := rfl
      have s1 : setL (.int (-1)) (.str (ttxt t.toNat)) (.lst true [.str (num n.toNat), .str wFin, .str x.1, .str b.1, .str (num t.toNat)]) = some (.lst true [.str (num n.toNat), .str wFin, .str x.1, .str b.1, .str (ttxt t.toNat)]) := rfl
      have s4 : setL (.int 4) (.str (ttxt t.toNat)) (.lst true [.str (num n.toNat), .str wFin, .str x.1, .str b.1, .str (num t.toNat)]) = some (.lst true [.str (num n.toNat), .str wFin, .str x.1, .str b.1, .str (ttxt t.toNat)]) := rfl
      have a1 : t_paper_text_2 (ET (n, Pk.fin x.1 b.1 t) (some (.lst true [.str (num n.toNat), .str wFin, .str x.1, .str b.1, .str (num t.toNat)]))) = .nx (ET (n, Pk.fin x.1 b.1 t) (some (.lst true [.str (num n.toNat), .str wFin, .str x.1, .str b.1, .str (ttxt t.toNat)]))) := by
        refine sSetL_ap (d := .str (ttxt t.toNat)) (k := .int (-1)) (p := ⟨_, fun d' => ET (n, Pk.fin x.1 b.1 t) (some d')⟩) ?_ rfl (by simp [n1]) s1
        simp [n1, iL, te]
      have a2 : t__law_text_2 (ET (n, Pk.fin x.1 b.1 t) (some (.lst true [.str (num n.toNat), .str wFin, .str x.1, .str b.1, .str (num t.toNat)]))) = .nx (ET (n, Pk.fin x.1 b.1 t) (some (.lst true [.str (num n.toNat), .str wFin, .str x.1, .str b.1, .str (ttxt t.toNat)]))) := by
        refine sSetL_ap (d := .str (ttxt t.toNat)) (k := .int 4) (p := ⟨_, fun d' => ET (n, Pk.fin x.1 b.1 t) (some d')⟩) ?_ rfl (by simp) s4
        simp [i4, le]
      refine ⟨?_, ?_⟩
      · show t_paper_text_3 (ET (n, Pk.fin x.1 b.1 t) (some (.lst true [.str (num n.toNat), .str wFin, .str x.1, .str b.1, .str (num t.toNat)]))) = _
        rw [t_paper_text_3, sIfS_ap]
        have : sTest (s2 opEq (sIx (sVarB 0) (sC (.int 1))) (sC (.str "finish"))) (ET (n, Pk.fin x.1 b.1 t) (some (.lst true [.str (num n.toNat), .str wFin, .str x.1, .str b.1, .str (num t.toNat)]))) = .ok true := by
          simp [i1, q]
        rw [this]
        exact a1
      · show t__law_text_3 (ET (n, Pk.fin x.1 b.1 t) (some (.lst true [.str (num n.toNat), .str wFin, .str x.1, .str b.1, .str (num t.toNat)]))) = _
        rw [t__law_text_3, sIfS_ap]
        have : sTest (s2 opEq (sIx (sVarB 0) (sC (.int 1))) (sC (.str "finish"))) (ET (n, Pk.fin x.1 b.1 t) (some (.lst true [.str (num n.toNat), .str wFin, .str x.1, .str b.1, .str (num t.toNat)]))) = .ok true := by
          simp [i1, q]
        rw [this]
        exact a2
    | code _ _ _ => exact absurd q (c2 _ (by simp [Pk.word]))
    | cost _ _ _ => exact absurd q (c2 _ (by simp [Pk.word]))
    | help _ _ _ => exact absurd q (c2 _ (by simp [Pk.word]))
    | off _ => exact absurd q (c2 _ (by simp [Pk.word]))
    | void _ => exact absurd q (c2 _ (by simp [Pk.word]))
  · have e : ppW0 (n, p) = ppW (n, p) := by
      cases p with
      | fin _ _ _ => exact absurd rfl q
      | _ => rfl
    rw [e]
    refine ⟨?_, ?_⟩
    · rw [t_paper_text_3]
      simp [i1, q]
    · rw [t__law_text_3]
      simp [i1, q]
theorem text_eq (g : Good nb nr m) {n k : Int} {p : Pk} (hn : 1 ≤ n) (hn2 : n ≤ 9999) (hk : k ≤ 10000) (h : PkOk m k p) : f_paper_text [ppD (n, p)] = .ok (.str (textP (n, p))) [] ∧ f__law_text [ppD (n, p)] = .ok (.str (textP (n, p))) [] := by
  obtain ⟨wd, l5, ne⟩ := ppW_wd g hn hn2 hk h
  have jn := join_wd (o := true) wd (by omega)
  obtain ⟨f1, f2⟩ := fin_eq g hn hn2 h
  have l0 := lt_0 g hn hn2 hk h
  refine ⟨?_, ?_⟩
  · rw [f_paper_text, runDef_ap, show entry 3 [ppD (n, p)] = ET (n, p) none from rfl]
    have e1 : t_paper_text_1 (ET (n, p) none) = .nx (ET (n, p) (some (.lst true ((ppW0 (n, p)).map .str)))) := by simp [t_paper_text_1, l0]
    unfold b_paper_text
    rw [sThen_ap, e1, andThen_nx, sThen_ap, f1, andThen_nx]
    generalize D.lst true ((ppW (n, p)).map .str) = L at *
    simp [t_paper_text_4, jn]
  · rw [f__law_text, runDef_ap, show entry 3 [ppD (n, p)] = ET (n, p) none from rfl]
    have e1 : t__law_text_1 (ET (n, p) none) = .nx (ET (n, p) (some (.lst true ((ppW0 (n, p)).map .str)))) := by simp [t__law_text_1, lt_0', l0]
    unfold b__law_text
    rw [sThen_ap, e1, andThen_nx, sThen_ap, f2, andThen_nx]
    generalize D.lst true ((ppW (n, p)).map .str) = L at *
    simp [t__law_text_4, jn]
theorem textP_len (g : Good nb nr m) {n k : Int} {p : Pk} (hn : 1 ≤ n) (hn2 : n ≤ 9999) (hk : k ≤ 10000) (h : PkOk m k p) : (textP (n, p)).length ≤ 505 ∧ PyData.strOk (textP (n, p)) = true := by
  obtain ⟨wd, l5, ne⟩ := ppW_wd g hn hn2 hk h
  have j : TL.tl (Txt.join sp (ppW (n, p))) = TL.joinL [32] ((ppW (n, p)).map TL.tl) := by
    rw [TL.join_eq, TL.tl_join, show TL.tl sp = [32] from by decide +kernel]
  refine ⟨?_, ?_⟩
  · have : ∀ {ws : List (List Nat)} {c : Nat}, (∀ x ∈ ws, x.length ≤ c) → (TL.joinL [32] ws).length ≤ (c + 1) * ws.length := fun {ws c} h => by
      induction ws with
      | nil => simp [TL.joinL]
      | cons x xs ih =>
        have hx := h x (by simp)
        have ih := ih fun y hy => h y (List.mem_cons_of_mem _ hy)
        cases xs with
        | nil => simp [TL.joinL]; omega
        | cons y ys =>
          simp only [TL.joinL, List.length_append, List.length_cons, List.length_nil] at ih ⊢
          rw [Nat.mul_add] at ih ⊢
          rw [Nat.mul_add]
          omega
    have b := this (ws := (ppW (n, p)).map TL.tl) (c := 100) fun x hx => by
      obtain ⟨w, hw, rfl⟩ := List.mem_map.mp hx
      exact (wd w hw).len
    rw [← j, List.length_map] at b
    show (TL.tl (textP (n, p))).length ≤ 505
    exact Nat.le_trans b (Nat.le_trans (Nat.mul_le_mul_left _ l5) (by decide))
  · unfold PyData.strOk
    rw [← Array.all_toList, List.all_eq_true]
    intro c hc
    have hc' : c ∈ TL.joinL [32] ((ppW (n, p)).map TL.tl) := by rw [← j]; exact hc
    rcases RR.joinL_mem hc' with z | ⟨w, hw, z⟩
    · simp only [List.mem_cons, List.not_mem_nil, or_false] at z
      simp [z]
    · obtain ⟨v, hv, rfl⟩ := List.mem_map.mp hw
      have := ((wd v hv).ok c z).2.2.2.2
      simp only [decide_eq_true_eq]
      omega
end
end RE
namespace Lk21
open PySem RL
def t_is_whole_0 : RL.Env → SRes := (sRet (sAnd (s1 (fIsTy "int") (sVarB 0)) (sNotV (s1 (fIsTy "bool") (sVarB 0)))))
def b_is_whole : RL.Env → SRes := t_is_whole_0
def f_is_whole : List D → FR := runDef 1 [] b_is_whole
def l_are_figures_0 : RL.Env → Res D := (sLc (sIter (sVar 0)) (.nm 3) [3] sYes (s2 oIn (sVarB 3) (sC (.str "0123456789"))))
def t_are_figures_1 : RL.Env → SRes := (sRet (sAnd (sChain opLe opLe (sVarB 1) (sCall (on1 fLenX) (sCons (sVarB 0) sNil)) (sVarB 2)) (sCall (on1 fAll) (sCons l_are_figures_0 sNil))))
def b_are_figures : RL.Env → SRes := t_are_figures_1
def f_are_figures : List D → FR := runDef 4 [] b_are_figures
def t_Handicap___init___0 : RL.Env → SRes := (sSetF cs_bearing "bearing" true (plVar 0) (sVar 1))
def b_Handicap___init__ : RL.Env → SRes := t_Handicap___init___0
def f_Handicap___init__ : List D → FR := runDef 2 [0] b_Handicap___init__
def t_is_in_0 : RL.Env → SRes := (sRet (sAnd (s1 (fIsTy "str") (sVarB 0)) (s2 oIn (sVarB 0) (sVarB 1))))
def b_is_in : RL.Env → SRes := t_is_in_0
def f_is_in : List D → FR := runDef 2 [] b_is_in
def l_Meeting_fleets_0 : RL.Env → Res D := (sLc (sVals (sCl (sFld cs_crews "crews" (sVarB 0)))) (.nm 1) [1] sYes (sTup (sCons (sCl (sIx (sVarB 1) (sC (.int 2)))) (sCons (sC (.bl true)) sNil))))
def t_Meeting_fleets_1 : RL.Env → SRes := (sRet (sCall (on1 fListX) (sCons (s1 fDict l_Meeting_fleets_0) sNil)))
def b_Meeting_fleets : RL.Env → SRes := t_Meeting_fleets_1
def f_Meeting_fleets : List D → FR := runDef 2 [] b_Meeting_fleets
def t_Meeting_races_0 : RL.Env → SRes := (sRet (sCall (on1 fListX) (sCons (sFld cs_runs "runs" (sVarB 0)) sNil)))
def b_Meeting_races : RL.Env → SRes := t_Meeting_races_0
def f_Meeting_races : List D → FR := runDef 1 [] b_Meeting_races
def t__law_cell_at_0 : RL.Env → SRes := (sRet (sCl (sIx (sVarB 0) (sVarB 1))))
def t__law_cell_at_1 : RL.Env → SRes := (sIfS (sTest (s2 opLt (sVarB 1) (sCall (on1 fLenX) (sCons (sVarB 0) sNil)))) t__law_cell_at_0 sNext)
def b__law_cell_at : RL.Env → SRes := (sThen t__law_cell_at_1
    (sRet (sC (.int 0))))
def f__law_cell_at : List D → FR := runDef 2 [] b__law_cell_at
def t__law_mixed_0 : RL.Env → SRes := (sAsg (.nm 2) true (s2 opMod (s2 opAdd (s2 opAdd (s2 opMul (sVarB 0) (sC (.int 48271))) (s2 opMul (sC (.int 7919)) (sVarB 1))) (sC (.int 11))) (sC (.int 1000003))))
def t__law_mixed_1 : RL.Env → SRes := (sRet (s2 opMod (s2 opMul (s2 opMod (s2 opMul (sVarB 2) (sVarB 2)) (sC (.int 1000003))) (sVarB 2)) (sC (.int 1000003))))
def b__law_mixed : RL.Env → SRes := (sThen t__law_mixed_0
    t__law_mixed_1)
def f__law_mixed : List D → FR := runDef 3 [] b__law_mixed
def l__law_entered_0 : RL.Env → Res D := (sLc (sIter (sCl (sIx (sVarB 0) (sC (.int 1))))) (.nm 2) [2] (sTest (s2 oIn (sIx (sVarB 1) (sC (.int 1))) (sTup (sCons (sC (.str "all")) (sCons (sCl (sIx (sVarB 2) (sC (.int 2)))) sNil))))) (sCl (sIx (sVarB 2) (sC (.int 0)))))
def b__law_entered : RL.Env → SRes := (sRet l__law_entered_0)
def f__law_entered : List D → FR := runDef 3 [] b__law_entered
def t__law_time_text_0 : RL.Env → SRes := (sRet (sM1 fJoin (sC (.str ":")) (sLst (sCons (sCall (on1 fStr) (sCons (s2 opFdiv (sVarB 0) (sC (.int 3600))) sNil)) (sCons (sSl (sCall (on1 fStr) (sCons (s2 opAdd (sC (.int 100)) (s2 opMod (s2 opFdiv (sVarB 0) (sC (.int 60))) (sC (.int 60)))) sNil)) (sPs (sC (.int 1))) sPn) (sCons (sSl (sCall (on1 fStr) (sCons (s2 opAdd (sC (.int 100)) (s2 opMod (sVarB 0) (sC (.int 60)))) sNil)) (sPs (sC (.int 1))) sPn) sNil))))))
def b__law_time_text : RL.Env → SRes := t__law_time_text_0
def f__law_time_text : List D → FR := runDef 1 [] b__law_time_text
def t__law_kinds_0 : RL.Env → SRes := (sAsg (.nm 1) true (sLst (sCons (sTup (sCons (sC (.str "text")) (sCons (s1 (fIsExc ist_BadText) (sVarB 0)) sNil))) (sCons (sTup (sCons (sC (.str "time")) (sCons (s1 (fIsExc ist_BadTime) (sVarB 0)) sNil))) (sCons (sTup (sCons (sC (.str "paper")) (sCons (s1 (fIsExc ist_BadPaper) (sVarB 0)) sNil))) sNil)))))
def t__law_kinds_1 : RL.Env → SRes := (sAsg (.nm 1) true (s2 opAdd (sVarB 1) (sLst (sCons (sTup (sCons (sC (.str "number")) (sCons (s1 (fIsExc ist_NoNumber) (sVarB 0)) sNil))) (sCons (sTup (sCons (sC (.str "name")) (sCons (s1 (fIsExc ist_NoName) (sVarB 0)) sNil))) sNil)))))
def t__law_kinds_2 : RL.Env → SRes := (sAsg (.nm 1) true (s2 opAdd (sVarB 1) (sLst (sCons (sTup (sCons (sC (.str "pair")) (sCons (s1 (fIsExc ist_BadPair) (sVarB 0)) sNil))) sNil))))
def l__law_kinds_3 : RL.Env → Res D := (sLc (sIter (sVar 1)) (.tp [(.nm 2), (.nm 3)]) [2, 3] (sTest (sVar 3)) (sVar 2))
def t__law_kinds_4 : RL.Env → SRes := (sRet (s2 opAdd l__law_kinds_3 (s2 opMul (sLst (sCons (sC (.str "bare")) sNil)) (sCall (on1 fInt) (sCons (sNotV (s1 (fIsExc ist_ValueError) (sVarB 0))) sNil)))))
def b__law_kinds : RL.Env → SRes := (sThen t__law_kinds_0
    (sThen t__law_kinds_1
    (sThen t__law_kinds_2
    t__law_kinds_4)))
def f__law_kinds : List D → FR := runDef 4 [] b__law_kinds
def l__law_whole_0 : RL.Env → Res D := (sLc (sIter (sVar 0)) (.nm 1) [1] (sTest (s2 oNotIn (sVarB 1) (sC (.str "0123456789")))) (sVar 1))
def t__law_whole_1 : RL.Env → SRes := (sRet (s1 fNeg (sC (.int 1))))
def t__law_whole_2 : RL.Env → SRes := (sIfS (sOrT (sNot (sTest (sChain opLt opLt (sC (.int 0)) (sCall (on1 fLenX) (sCons (sVarB 0) sNil)) (sC (.int 5))))) (sTest (s2 opNe l__law_whole_0 (sLst sNil)))) t__law_whole_1 sNext)
def t__law_whole_3 : RL.Env → SRes := (sRet (sIf (sAndT (sTest (s2 opEq (sIx (sVarB 0) (sC (.int 0))) (sC (.str "0")))) (sTest (s2 opNe (sVarB 0) (sC (.str "0"))))) (s1 fNeg (sC (.int 1))) (sCall (on1 fInt) (sCons (sVarB 0) sNil))))
def b__law_whole : RL.Env → SRes := (sThen t__law_whole_2
    t__law_whole_3)
def f__law_whole : List D → FR := runDef 2 [] b__law_whole
def t__law_bent_0 : RL.Env → SRes := (sAsg (.nm 3) true (sM1 fSplit (sVarB 1) (sC (.str " "))))
def t__law_bent_1 : RL.Env → SRes := (sAsg (.nm 4) true (s2 opFdiv (sVarB 2) (sC (.int 8))))
def t__law_bent_2 : RL.Env → SRes := (sAsg (.nm 5) true (s2 opMod (sVarB 4) (sCall (on1 fLenX) (sCons (sVarB 3) sNil))))
def l__law_bent_3 : RL.Env → Res D := (sLc (sIter (s2 opAddA (s2 opAddA (sTo D.tp1 (sIx (sVarB 0) (sC (.int 0)))) (sIx (sVarB 0) (sC (.int 1)))) (sIx (sVarB 0) (sC (.int 3))))) (.nm 10) [10] sYes (sCl (sIx (sVarB 10) (sC (.int 0)))))
def t__law_bent_4 : RL.Env → SRes := (sAsg (.nm 6) true (s2 opAddA l__law_bent_3 (sLst (sCons (sC (.str "finish")) (sCons (sC (.str "code")) (sCons (sC (.str "cost")) (sCons (sC (.str "help")) (sCons (sC (.str "off")) (sCons (sC (.str "void")) (sCons (sC (.str "0")) sNil))))))))))
def t__law_bent_5 : RL.Env → SRes := (sAsg (.nm 6) true (s2 opAddA (sVarB 6) (sLst (sCons (sC (.str "1")) (sCons (sC (.str "01")) (sCons (sC (.str "20")) (sCons (sC (.str "21")) (sCons (sC (.str "9999")) (sCons (sC (.str "10000")) (sCons (sC (.str "0:00:00")) (sCons (sC (.str "99:59:59")) (sCons (sC (.str "100:00:00")) (sCons (sC (.str "00:00:00")) (sCons (sC (.str "1:60:00")) sNil))))))))))))))
def t__law_bent_6 : RL.Env → SRes := (sAsg (.nm 6) true (s2 opAddA (sVarB 6) (sLst (sCons (sC (.str "0:00:60")) (sCons (sC (.str "359999")) (sCons (sC (.str "barred")) (sCons (sC (.str "away")) (sCons (sC (.str "Away")) (sCons (sC (.str "every")) (sCons (sC (.str "ahead")) (sCons (sC (.str "all")) (sCons (sC (.str "")) (sCons (sC (.str "-1")) (sCons (sC (.str "#")) (sCons (sC (.str "\t")) (sCons (sC (.str "x y")) sNil))))))))))))))))
def t__law_bent_7 : RL.Env → SRes := (sAsg (.nm 7) true (sCl (sIx (sVarB 6) (s2 opMod (s2 opFdiv (sVarB 4) (sC (.int 8))) (sCall (on1 fLenX) (sCons (sVarB 6) sNil))))))
def t__law_bent_8 : RL.Env → SRes := (sRet (sM1 fJoin (sC (.str " ")) (s2 opAddA (sSl (sVarB 3) sPn (sPs (sVarB 5))) (sSl (sVarB 3) (sPs (s2 opAddA (sVarB 5) (sC (.int 1)))) sPn))))
def t__law_bent_9 : RL.Env → SRes := (sIfS (sTest (s2 opEq (s2 opMod (sVarB 2) (sC (.int 8))) (sC (.int 0)))) t__law_bent_8 sNext)
def t__law_bent_10 : RL.Env → SRes := (sRet (sM1 fJoin (sC (.str " ")) (s2 opAddA (s2 opAddA (sSl (sVarB 3) sPn (sPs (sVarB 5))) (sLst (sCons (sVar 7) sNil))) (sSl (sVarB 3) (sPs (sVarB 5)) sPn))))
def t__law_bent_11 : RL.Env → SRes := (sIfS (sTest (s2 opEq (s2 opMod (sVarB 2) (sC (.int 8))) (sC (.int 1)))) t__law_bent_10 sNext)
def t__law_bent_12 : RL.Env → SRes := (sRet (sM1 fJoin (sC (.str " ")) (s2 opAddA (s2 opAddA (sSl (sVarB 3) sPn (sPs (sVarB 5))) (sLst (sCons (sVar 7) sNil))) (sSl (sVarB 3) (sPs (s2 opAddA (sVarB 5) (sC (.int 1)))) sPn))))
def t__law_bent_13 : RL.Env → SRes := (sIfS (sTest (s2 opLt (s2 opMod (sVarB 2) (sC (.int 8))) (sC (.int 5)))) t__law_bent_12 sNext)
def t__law_bent_14 : RL.Env → SRes := (sAsg (.nm 8) true (s2 opMod (sVarB 4) (s2 opAddA (sCall (on1 fLenX) (sCons (sVarB 1) sNil)) (sC (.int 1)))))
def t__law_bent_15 : RL.Env → SRes := (sAsg (.nm 9) true (sIx (sC (.str " 019:abz-#.\t\nA")) (s2 opMod (s2 opFdiv (sVarB 4) (sC (.int 64))) (sC (.int 14)))))
def t__law_bent_16 : RL.Env → SRes := (sRet (s2 opAddA (s2 opAddA (sSl (sVarB 1) sPn (sPs (sVarB 8))) (sVarB 9)) (sSl (sVarB 1) (sPs (s2 opAddA (sVarB 8) (sCall (on1 fInt) (sCons (s2 opEq (s2 opMod (sVarB 2) (sC (.int 8))) (sC (.int 7))) sNil)))) sPn)))
def b__law_bent : RL.Env → SRes := (sThen t__law_bent_0
    (sThen t__law_bent_1
    (sThen t__law_bent_2
    (sThen t__law_bent_4
    (sThen t__law_bent_5
    (sThen t__law_bent_6
    (sThen t__law_bent_7
    (sThen t__law_bent_9
    (sThen t__law_bent_11
    (sThen t__law_bent_13
    (sThen t__law_bent_14
    (sThen t__law_bent_15
    t__law_bent_16))))))))))))
def f__law_bent : List D → FR := runDef 11 [] b__law_bent
def t_is_time_0 : RL.Env → SRes := (sRet (sAnd (sCallF 1 f_is_whole (sCons (sVar 0) sNil)) (sChain opLe opLe (sC (.int 0)) (sVarB 0) (sC (.int 359999)))))
def b_is_time : RL.Env → SRes := t_is_time_0
def f_is_time : List D → FR := runDef 1 [] b_is_time
def t_time_read_0 : RL.Env → SRes := (sAsg (.nm 1) true (sIf (sTest (s1 (fIsTy "str") (sVarB 0))) (sM1 fSplit (sVarB 0) (sC (.str ":"))) (sLst sNil)))
def t_time_read_1 : RL.Env → SRes := (sIfS (sOrT (sTest (s2 opNe (sCall (on1 fLenX) (sCons (sVarB 1) sNil)) (sC (.int 3)))) (sNot (sTest (sCallF 3 f_are_figures (sCons (sCl (sIx (sVarB 1) (sC (.int 0)))) (sCons (sC (.int 1)) (sCons (sC (.int 2)) sNil))))))) (sRaise "BadTime") sNext)
def t_time_read_2 : RL.Env → SRes := (sIfS (sOrT (sNot (sTest (sCallF 3 f_are_figures (sCons (sCl (sIx (sVarB 1) (sC (.int 1)))) (sCons (sC (.int 2)) (sCons (sC (.int 2)) sNil)))))) (sNot (sTest (sCallF 3 f_are_figures (sCons (sCl (sIx (sVarB 1) (sC (.int 2)))) (sCons (sC (.int 2)) (sCons (sC (.int 2)) sNil))))))) (sRaise "BadTime") sNext)
def l_time_read_3 : RL.Env → Res D := (sLc (sIter (sVar 1)) (.nm 5) [5] sYes (sCall (on1 fInt) (sCons (sVarB 5) sNil)))
def t_time_read_4 : RL.Env → SRes := (sAsg (.tp [(.nm 2), (.nm 3), (.nm 4)]) true l_time_read_3)
def t_time_read_5 : RL.Env → SRes := (sIfS (sOrT (sTest (s2 opNe (sCall (on1 fStr) (sCons (sVarB 2) sNil)) (sIx (sVarB 1) (sC (.int 0))))) (sOrT (sTest (s2 opGe (sVarB 3) (sC (.int 60)))) (sTest (s2 opGe (sVarB 4) (sC (.int 60)))))) (sRaise "BadTime") sNext)
def t_time_read_6 : RL.Env → SRes := (sRet (s2 opAdd (s2 opAdd (s2 opMul (sC (.int 3600)) (sVarB 2)) (s2 opMul (sC (.int 60)) (sVarB 3))) (sVarB 4)))
def b_time_read : RL.Env → SRes := (sThen t_time_read_0
    (sThen t_time_read_1
    (sThen t_time_read_2
    (sThen t_time_read_4
    (sThen t_time_read_5
    t_time_read_6)))))
def f_time_read : List D → FR := runDef 6 [] b_time_read
def t_Meeting_race_0 : RL.Env → SRes := (sIfS (sNot (sTest (sCallF 2 f_is_in (sCons (sVar 1) (sCons (sCl (sFld cs_runs "runs" (sVarB 0))) sNil))))) (sRaise "NoName") sNext)
def t_Meeting_race_1 : RL.Env → SRes := (sRet (sCl (sIx (sFld cs_runs "runs" (sVarB 0)) (sVarB 1))))
def b_Meeting_race : RL.Env → SRes := (sThen t_Meeting_race_0
    t_Meeting_race_1)
def f_Meeting_race : List D → FR := runDef 2 [] b_Meeting_race
abbrev tab_fleets : List (Str × (List D → FR)) := [("Meeting", f_Meeting_fleets)]
def t_Meeting_sails_of_0 : RL.Env → SRes := (sIfS (sNot (sTest (sCallF 2 f_is_in (sCons (sVar 1) (sCons (s2 opAdd (sLst (sCons (sC (.str "all")) sNil)) (sMeth "fleets" tab_fleets 1 (sVar 0) sNil)) sNil))))) (sRaise "NoName") sNext)
def l_Meeting_sails_of_1 : RL.Env → Res D := (sLc (sVals (sCl (sFld cs_crews "crews" (sVarB 0)))) (.tp [(.nm 2), (.nm 3), (.nm 4)]) [2, 3, 4] (sTest (s2 oIn (sVarB 1) (sTup (sCons (sC (.str "all")) (sCons (sVar 4) sNil))))) (sVar 2))
def t_Meeting_sails_of_2 : RL.Env → SRes := (sRet l_Meeting_sails_of_1)
def b_Meeting_sails_of : RL.Env → SRes := (sThen t_Meeting_sails_of_0
    t_Meeting_sails_of_2)
def f_Meeting_sails_of : List D → FR := runDef 5 [] b_Meeting_sails_of
def t_number_in_0 : RL.Env → SRes := (sIfS (sOrT (sNot (sTest (sCallF 3 f_are_figures (sCons (sVar 0) (sCons (sC (.int 1)) (sCons (sC (.int 4)) sNil)))))) (sAndT (sTest (s2 opEq (sIx (sVarB 0) (sC (.int 0))) (sC (.str "0")))) (sTest (s2 opNe (sVarB 0) (sC (.str "0")))))) (sRet (sC .non)) sNext)
def t_number_in_1 : RL.Env → SRes := (sRet (sCall (on1 fInt) (sCons (sVarB 0) sNil)))
def b_number_in : RL.Env → SRes := (sThen t_number_in_0
    t_number_in_1)
def f_number_in : List D → FR := runDef 1 [] b_number_in
def t_is_among_0 : RL.Env → SRes := (sRet (sAnd (sCallF 1 f_is_whole (sCons (sVar 0) sNil)) (sChain opLe opLe (sVarB 1) (sVarB 0) (sVarB 2))))
def b_is_among : RL.Env → SRes := t_is_among_0
def f_is_among : List D → FR := runDef 3 [] b_is_among
def t__law_names_0 : RL.Env → SRes := (sAsg (.nm 2) true (sC (.str "abcdefghijklmnopqrstuvwxyz0123456789")))
def l__law_names_1 : RL.Env → Res D := (sLc (sI rng1 (sCons (sC (.int 6)) sNil)) (.nm 10) [10] sYes (sCl (sIx (sVarB 2) (s2 opMod (sCallF 2 f__law_mixed (sCons (sVar 0) (sCons (sVar 10) sNil))) (sC (.int 36))))))
def t__law_names_2 : RL.Env → SRes := (sAsg (.nm 3) true l__law_names_1)
def t__law_names_3 : RL.Env → SRes := (sAsg (.nm 4) true (s2 opMod (sCallF 2 f__law_mixed (sCons (sVar 0) (sCons (sC (.int 8)) sNil))) (sC (.int 6))))
def t__law_names_4 : RL.Env → SRes := (sAsg (.nm 5) true (s2 opAdd (s2 opAdd (sVarB 4) (sC (.int 1))) (s2 opMod (sCallF 2 f__law_mixed (sCons (sVar 0) (sCons (sC (.int 9)) sNil))) (s2 opSub (sC (.int 6)) (sVarB 4)))))
def t__law_names_5 : RL.Env → SRes := (sAsg (.nm 6) true (sIx (sLst (sCons (sC (.int 1)) (sCons (sC (.int 5)) (sCons (sC (.int 7)) (sCons (sC (.int 11)) (sCons (sC (.int 13)) (sCons (sC (.int 17)) sNil))))))) (s2 opMod (sCallF 2 f__law_mixed (sCons (sVar 0) (sCons (sC (.int 10)) sNil))) (sC (.int 6)))))
def t__law_names_6 : RL.Env → SRes := (sAsg (.nm 7) false (sLst sNil))
def t__law_names_7 : RL.Env → SRes := (sAsg (.nm 9) true (sCl (sIx (sVarB 2) (s2 opMod (s2 opAdd (sCallF 2 f__law_mixed (sCons (sVar 0) (sCons (sC (.int 11)) sNil))) (s2 opMul (sVarB 6) (sVarB 8))) (sC (.int 36))))))
def t__law_names_8 : RL.Env → SRes := (sMut mAppend (plVar 7) (sCons (sM1 fJoin (sC (.str "")) (s2 opAdd (s2 opAdd (sSl (sVarB 3) sPn (sPs (sVarB 4))) (sLst (sCons (sVar 9) sNil))) (sSl (sVarB 3) (sPs (s2 opAdd (sVarB 4) (sC (.int 1)))) (sPs (sVarB 5))))) sNil))
def k__law_names_9 : RL.Env → SRes := (sThen t__law_names_7
    t__law_names_8)
def t__law_names_9 : RL.Env → SRes := (sFor (sI rng1 (sCons (s2 opAdd (sVarB 1) (sC (.int 1))) sNil)) (.nm 8)
    k__law_names_9)
def l__law_names_10 : RL.Env → Res D := (sLc (sSeq (sVarB 7)) (.nm 11) [11] (sTest (s2 opNe (sVarB 11) (sC (.str "all")))) (sVar 11))
def t__law_names_11 : RL.Env → SRes := (sRet (sSl l__law_names_10 sPn (sPs (sVarB 1))))
def b__law_names : RL.Env → SRes := (sThen t__law_names_0
    (sThen t__law_names_2
    (sThen t__law_names_3
    (sThen t__law_names_4
    (sThen t__law_names_5
    (sThen t__law_names_6
    (sThen t__law_names_9
    t__law_names_11)))))))
def f__law_names : List D → FR := runDef 12 [] b__law_names
def t__law_handicap_0 : RL.Env → SRes := (sAsg (.nm 1) true (sIx (sLst (sCons (sC (.int 1000)) (sCons (s2 opAdd (sC (.int 1)) (s2 opMod (sCallF 2 f__law_mixed (sCons (sVar 0) (sCons (sC (.int 31)) sNil))) (sC (.int 5000)))) (sCons (s2 opAdd (sC (.int 900)) (s2 opMod (sCallF 2 f__law_mixed (sCons (sVar 0) (sCons (sC (.int 31)) sNil))) (sC (.int 200)))) sNil)))) (s2 opMod (sCallF 2 f__law_mixed (sCons (sVar 0) (sCons (sC (.int 32)) sNil))) (sC (.int 3)))))
def t__law_handicap_1 : RL.Env → SRes := (sAsg (.nm 2) true (sIx (sLst (sCons (sC (.str "level")) (sCons (sC (.str "factor")) (sCons (sC (.str "yard")) (sCons (sC (.str "mile")) sNil))))) (s2 opMod (sCallF 2 f__law_mixed (sCons (sVar 0) (sCons (sC (.int 30)) sNil))) (sC (.int 4)))))
def t__law_handicap_2 : RL.Env → SRes := (sRet (sIf (sTest (s2 opEq (sVarB 2) (sC (.str "level")))) (sTup (sCons (sVar 2) sNil)) (sTup (sCons (sVar 2) (sCons (sVar 1) sNil)))))
def b__law_handicap : RL.Env → SRes := (sThen t__law_handicap_0
    (sThen t__law_handicap_1
    t__law_handicap_2))
def f__law_handicap : List D → FR := runDef 3 [] b__law_handicap
def t__law_paper_0 : RL.Env → SRes := (sAsg (.nm 3) true (sCl (sIx (sVarB 1) (sC (.int 3)))))
def t__law_paper_1 : RL.Env → SRes := (sAsg (.nm 4) true (s2 opMod (sCallF 2 f__law_mixed (sCons (sVar 0) (sCons (sC (.int 100)) sNil))) (sC (.int 16))))
def t__law_paper_2 : RL.Env → SRes := (sRet (sTup (sCons (sVar 2) (sCons (sC (.str "void")) (sCons (s2 opAdd (sC (.int 1)) (s2 opMod (sCallF 2 f__law_mixed (sCons (sVar 0) (sCons (sC (.int 101)) sNil))) (sCall (on2 fMax2) (sCons (sC (.int 1)) (sCons (s2 opSub (sVarB 2) (sC (.int 1))) sNil))))) sNil)))))
def t__law_paper_3 : RL.Env → SRes := (sIfS (sOrT (sTest (s2 opEq (sVarB 4) (sC (.int 0)))) (sTest (s2 opEq (sVarB 3) (sTup sNil)))) t__law_paper_2 sNext)
def t__law_paper_4 : RL.Env → SRes := (sAsg (.nm 5) true (sCl (sIx (sVarB 3) (s2 opMod (sCallF 2 f__law_mixed (sCons (sVar 0) (sCons (sC (.int 102)) sNil))) (sCall (on1 fLenX) (sCons (sVarB 3) sNil))))))
def t__law_paper_5 : RL.Env → SRes := (sRet (sTup (sCons (sVar 2) (sCons (sC (.str "off")) (sCons (sCl (sIx (sVarB 5) (sC (.int 0)))) sNil)))))
def t__law_paper_6 : RL.Env → SRes := (sIfS (sAndT (sTest (s2 opEq (sVarB 4) (sC (.int 1)))) (sTest (s2 opEq (s2 opMod (sCallF 2 f__law_mixed (sCons (sVar 0) (sCons (sC (.int 103)) sNil))) (sC (.int 3))) (sC (.int 0))))) t__law_paper_5 sNext)
def t__law_paper_7 : RL.Env → SRes := (sAsg (.nm 6) true (sCallF 2 f__law_entered (sCons (sVar 1) (sCons (sVar 5) sNil))))
def t__law_paper_8 : RL.Env → SRes := (sAsg (.nm 7) true (sCl (sIx (sVarB 6) (s2 opMod (sCallF 2 f__law_mixed (sCons (sVar 0) (sCons (sC (.int 104)) sNil))) (sCall (on1 fLenX) (sCons (sVarB 6) sNil))))))
def t__law_paper_9 : RL.Env → SRes := (sRet (sTup (sCons (sVar 2) (sCons (sC (.str "cost")) (sCons (sCl (sIx (sVarB 5) (sC (.int 0)))) (sCons (sVar 7) (sCons (s2 opAdd (sC (.int 1)) (s2 opMod (sCallF 2 f__law_mixed (sCons (sVar 0) (sCons (sC (.int 105)) sNil))) (sC (.int 20)))) sNil)))))))
def t__law_paper_10 : RL.Env → SRes := (sIfS (sTest (s2 opEq (sVarB 4) (sC (.int 2)))) t__law_paper_9 sNext)
def t__law_paper_11 : RL.Env → SRes := (sRet (sTup (sCons (sVar 2) (sCons (sC (.str "help")) (sCons (sCl (sIx (sVarB 5) (sC (.int 0)))) (sCons (sVar 7) (sCons (sIx (sLst (sCons (sC (.str "every")) (sCons (sC (.str "ahead")) sNil))) (s2 opMod (sCallF 2 f__law_mixed (sCons (sVar 0) (sCons (sC (.int 106)) sNil))) (sC (.int 2)))) sNil)))))))
def t__law_paper_12 : RL.Env → SRes := (sIfS (sTest (s2 opEq (sVarB 4) (sC (.int 3)))) t__law_paper_11 sNext)
def t__law_paper_13 : RL.Env → SRes := (sAsg (.nm 10) true (sLst (sCons (sC (.str "away")) (sCons (sC (.str "unstarted")) (sCons (sC (.str "early")) (sCons (sC (.str "unfinished")) (sCons (sC (.str "retired")) (sCons (sC (.str "out")) (sCons (sC (.str "barred")) sNil)))))))))
def t__law_paper_14 : RL.Env → SRes := (sRet (sTup (sCons (sVar 2) (sCons (sC (.str "code")) (sCons (sCl (sIx (sVarB 5) (sC (.int 0)))) (sCons (sVar 7) (sCons (sCl (sIx (sVarB 10) (s2 opMod (sCallF 2 f__law_mixed (sCons (sVar 0) (sCons (sC (.int 107)) sNil))) (sC (.int 7))))) sNil)))))))
def t__law_paper_15 : RL.Env → SRes := (sIfS (sTest (s2 opLt (sVarB 4) (sC (.int 6)))) (sThen t__law_paper_13
    t__law_paper_14) sNext)
def t__law_paper_16 : RL.Env → SRes := (sAsg (.nm 8) true (s2 opMod (s2 opMul (sCallF 2 f__law_mixed (sCons (sVar 0) (sCons (sC (.int 108)) sNil))) (sC (.int 7))) (s2 opSub (sC (.int 360000)) (sIx (sVarB 5) (sC (.int 2))))))
def t__law_paper_17 : RL.Env → SRes := (sAsg (.nm 9) true (s2 opAdd (sIx (sVarB 5) (sC (.int 2))) (sIx (sLst (sCons (sVar 8) (sCons (sCall (on2 fMin2) (sCons (sVarB 8) (sCons (s2 opMod (sCallF 2 f__law_mixed (sCons (sVar 0) (sCons (sC (.int 109)) sNil))) (sC (.int 9))) sNil))) (sCons (sCall (on2 fMin2) (sCons (s2 opSub (sC (.int 359999)) (sIx (sVarB 5) (sC (.int 2)))) (sCons (sC (.int 600)) sNil))) sNil)))) (s2 opMod (sCallF 2 f__law_mixed (sCons (sVar 0) (sCons (sC (.int 110)) sNil))) (sC (.int 3))))))
def t__law_paper_18 : RL.Env → SRes := (sRet (sTup (sCons (sVar 2) (sCons (sC (.str "finish")) (sCons (sCl (sIx (sVarB 5) (sC (.int 0)))) (sCons (sVar 7) (sCons (sVar 9) sNil)))))))
def b__law_paper : RL.Env → SRes := (sThen t__law_paper_0
    (sThen t__law_paper_1
    (sThen t__law_paper_3
    (sThen t__law_paper_4
    (sThen t__law_paper_6
    (sThen t__law_paper_7
    (sThen t__law_paper_8
    (sThen t__law_paper_10
    (sThen t__law_paper_12
    (sThen t__law_paper_15
    (sThen t__law_paper_16
    (sThen t__law_paper_17
    t__law_paper_18))))))))))))
def f__law_paper : List D → FR := runDef 11 [] b__law_paper
def l__law_text_0 : RL.Env → Res D := (sLc (sIter (sVar 0)) (.nm 2) [2] sYes (sCall (on1 fStr) (sCons (sVarB 2) sNil)))
def t__law_text_1 : RL.Env → SRes := (sAsg (.nm 1) false l__law_text_0)
def t__law_text_2 : RL.Env → SRes := (sSetL (plVar 1) (sC (.int 4)) (sCallF 1 f__law_time_text (sCons (sCl (sIx (sVarB 0) (sC (.int 4)))) sNil)))
def t__law_text_3 : RL.Env → SRes := (sIfS (sTest (s2 opEq (sIx (sVarB 0) (sC (.int 1))) (sC (.str "finish")))) t__law_text_2 sNext)
def t__law_text_4 : RL.Env → SRes := (sRet (sM1 fJoin (sC (.str " ")) (sVarB 1)))
def b__law_text : RL.Env → SRes := (sThen t__law_text_1
    (sThen t__law_text_3
    t__law_text_4))
def f__law_text : List D → FR := runDef 3 [] b__law_text
def t__law_seconds_0 : RL.Env → SRes := (sAsg (.nm 1) true (sM1 fSplit (sVarB 0) (sC (.str ":"))))
def l__law_seconds_1 : RL.Env → Res D := (sLc (sIter (sM1 fJoin (sC (.str "")) (sVarB 1))) (.nm 3) [3] (sTest (s2 oNotIn (sVarB 3) (sC (.str "0123456789")))) (sVar 3))
def t__law_seconds_2 : RL.Env → SRes := (sRet (s1 fNeg (sC (.int 1))))
def t__law_seconds_3 : RL.Env → SRes := (sIfS (sOrT (sTest (s2 opNe (sCall (on1 fLenX) (sCons (sVarB 1) sNil)) (sC (.int 3)))) (sTest (s2 opNe l__law_seconds_1 (sLst sNil)))) t__law_seconds_2 sNext)
def l__law_seconds_4 : RL.Env → Res D := (sLc (sIter (sSl (sVarB 1) (sPs (sC (.int 1))) sPn)) (.nm 4) [4] sYes (sCall (on1 fLenX) (sCons (sVarB 4) sNil)))
def t__law_seconds_5 : RL.Env → SRes := (sRet (s1 fNeg (sC (.int 1))))
def t__law_seconds_6 : RL.Env → SRes := (sIfS (sOrT (sTest (s2 opNe l__law_seconds_4 (sLst (sCons (sC (.int 2)) (sCons (sC (.int 2)) sNil))))) (sTest (s2 opGtT (sCall (on1 fMaxT) (sCons (sSl (sVarB 1) (sPs (sC (.int 1))) sPn) sNil)) (sC (.str "59"))))) t__law_seconds_5 sNext)
def t__law_seconds_7 : RL.Env → SRes := (sAsg (.nm 2) true (sCallF 1 f__law_whole (sCons (sCl (sIx (sVarB 1) (sC (.int 0)))) sNil)))
def t__law_seconds_8 : RL.Env → SRes := (sRet (sIf (sNot (sTest (sChain opLe opLt (sC (.int 0)) (sVarB 2) (sC (.int 100))))) (s1 fNeg (sC (.int 1))) (s2 opAdd (s2 opAdd (s2 opMul (sVarB 2) (sC (.int 3600))) (s2 opMul (sCall (on1 fInt) (sCons (sIx (sVarB 1) (sC (.int 1))) sNil)) (sC (.int 60)))) (sCall (on1 fInt) (sCons (sIx (sVarB 1) (sC (.int 2))) sNil)))))
def b__law_seconds : RL.Env → SRes := (sThen t__law_seconds_0
    (sThen t__law_seconds_3
    (sThen t__law_seconds_6
    (sThen t__law_seconds_7
    t__law_seconds_8))))
def f__law_seconds : List D → FR := runDef 5 [] b__law_seconds
def t_need_time_0 : RL.Env → SRes := (sIfS (sNot (sTest (sCallF 1 f_is_time (sCons (sVar 0) sNil)))) (sRaise "BadTime") sNext)
def b_need_time : RL.Env → SRes := t_need_time_0
def f_need_time : List D → FR := runDef 1 [] b_need_time
def t_handicap_of_0 : RL.Env → SRes := (sAsg (.nm 1) true (sCl (sIx (sVarB 0) (sC (.int 0)))))
def t_handicap_of_1 : RL.Env → SRes := (sRet (sMake "FactorHandicap" 2 f_Handicap___init__ (sCons (sCl (sIx (sVarB 0) (sC (.int 1)))) sNil)))
def t_handicap_of_2 : RL.Env → SRes := (sIfS (sTest (s2 opEq (sVarB 1) (sC (.str "factor")))) t_handicap_of_1 sNext)
def t_handicap_of_3 : RL.Env → SRes := (sRet (sMake "YardHandicap" 2 f_Handicap___init__ (sCons (sCl (sIx (sVarB 0) (sC (.int 1)))) sNil)))
def t_handicap_of_4 : RL.Env → SRes := (sIfS (sTest (s2 opEq (sVarB 1) (sC (.str "yard")))) t_handicap_of_3 sNext)
def t_handicap_of_5 : RL.Env → SRes := (sRet (sMake "MileHandicap" 2 f_Handicap___init__ (sCons (sCl (sIx (sVarB 0) (sC (.int 1)))) sNil)))
def t_handicap_of_6 : RL.Env → SRes := (sIfS (sTest (s2 opEq (sVarB 1) (sC (.str "mile")))) t_handicap_of_5 sNext)
def t_handicap_of_7 : RL.Env → SRes := (sRet (sMake "LevelHandicap" 2 f_Handicap___init__ (sCons (sC (.int 0)) sNil)))
def b_handicap_of : RL.Env → SRes := (sThen t_handicap_of_0
    (sThen t_handicap_of_2
    (sThen t_handicap_of_4
    (sThen t_handicap_of_6
    t_handicap_of_7))))
def f_handicap_of : List D → FR := runDef 2 [] b_handicap_of
abbrev tab_sails_of : List (Str × (List D → FR)) := [("Meeting", f_Meeting_sails_of)]
abbrev tab_race : List (Str × (List D → FR)) := [("Meeting", f_Meeting_race)]
def t_Meeting_entered_0 : RL.Env → SRes := (sRet (sMeth "sails_of" tab_sails_of 2 (sVar 0) (sCons (sIx (sMeth "race" tab_race 2 (sVar 0) (sCons (sVar 1) sNil)) (sC (.int 1))) sNil)))
def b_Meeting_entered : RL.Env → SRes := t_Meeting_entered_0
def f_Meeting_entered : List D → FR := runDef 2 [] b_Meeting_entered
def t_time_in_0 : RL.Env → SRes := (sAsg (.nm 1) true (sC .non))
def t_time_in_1 : RL.Env → SRes := (sAsg (.nm 1) true (sCallF 1 f_time_read (sCons (sVar 0) sNil)))
def t_time_in_2 : RL.Env → SRes := (sAsg (.nm 1) true (sC .non))
def t_time_in_3 : RL.Env → SRes := (sTryH [(sub_BadTime, t_time_in_2)] t_time_in_1)
def b_time_in : RL.Env → SRes := (sThen t_time_in_0
    (sThen t_time_in_3
    (sRet (sVar 1))))
def f_time_in : List D → FR := runDef 2 [] b_time_in
def t_is_told_0 : RL.Env → SRes := (sRet (sAnd (sCallF 1 f_is_time (sCons (sVar 3) sNil)) (s2 opLe (sIx (sMeth "race" tab_race 2 (sVar 0) (sCons (sVar 2) sNil)) (sC (.int 2))) (sVarB 3))))
def t_is_told_1 : RL.Env → SRes := (sIfS (sTest (s2 opEq (sVarB 1) (sC (.str "finish")))) t_is_told_0 sNext)
def t_is_told_2 : RL.Env → SRes := (sRet (sCallF 3 f_is_among (sCons (sVar 3) (sCons (sC (.int 1)) (sCons (sC (.int 20)) sNil)))))
def t_is_told_3 : RL.Env → SRes := (sIfS (sTest (s2 opEq (sVarB 1) (sC (.str "cost")))) t_is_told_2 sNext)
def t_is_told_4 : RL.Env → SRes := (sRet (sCallF 2 f_is_in (sCons (sVar 3) (sCons (s1 (fKd kd_TOLD) (sVarB 1)) sNil))))
def b_is_told : RL.Env → SRes := (sThen t_is_told_1
    (sThen t_is_told_3
    t_is_told_4))
def f_is_told : List D → FR := runDef 4 [] b_is_told
def t__law_meeting_0 : RL.Env → SRes := (sAsg (.nm 3) true (sCallF 2 f__law_names (sCons (sCallF 2 f__law_mixed (sCons (sCallF 2 f__law_cell_at (sCons (sVar 0) (sCons (sC (.int 0)) sNil))) (sCons (sC (.int 1)) sNil))) (sCons (sC (.int 6)) sNil))))
def t__law_meeting_1 : RL.Env → SRes := (sAsg (.nm 4) false (sLst sNil))
def t__law_meeting_2 : RL.Env → SRes := (sMut mAppend (plVar 4) (sCons (sTup (sCons (sCl (sIx (sVarB 3) (sVarB 5))) (sCons (sCallF 1 f__law_handicap (sCons (sCallF 2 f__law_mixed (sCons (sCallF 2 f__law_cell_at (sCons (sVar 0) (sCons (sC (.int 0)) sNil))) (sCons (s2 opAdd (sC (.int 20)) (sVarB 5)) sNil))) sNil)) sNil))) sNil))
def t__law_meeting_3 : RL.Env → SRes := (sFor (sI rng1 (sCons (s2 opAdd (sC (.int 1)) (s2 opMod (sCallF 2 f__law_cell_at (sCons (sVar 0) (sCons (sC (.int 0)) sNil))) (sC (.int 6)))) sNil)) (.nm 5)
    t__law_meeting_2)
def t__law_meeting_4 : RL.Env → SRes := (sAsg (.nm 6) true (sCallF 2 f__law_names (sCons (sCallF 2 f__law_mixed (sCons (sCallF 2 f__law_cell_at (sCons (sVar 0) (sCons (sC (.int 1)) sNil))) (sCons (sC (.int 2)) sNil))) (sCons (sC (.int 24)) sNil))))
def t__law_meeting_5 : RL.Env → SRes := (sAsg (.nm 7) true (sSl (sCallF 2 f__law_names (sCons (sCallF 2 f__law_mixed (sCons (sCallF 2 f__law_cell_at (sCons (sVar 0) (sCons (sC (.int 2)) sNil))) (sCons (sC (.int 3)) sNil))) (sCons (sC (.int 3)) sNil))) sPn (sPs (s2 opAdd (sC (.int 1)) (s2 opMod (sCallF 2 f__law_cell_at (sCons (sVar 0) (sCons (sC (.int 2)) sNil))) (sC (.int 3)))))))
def t__law_meeting_6 : RL.Env → SRes := (sAsg (.nm 8) false (sLst sNil))
def t__law_meeting_7 : RL.Env → SRes := (sAsg (.nm 14) true (sCallF 2 f__law_mixed (sCons (sCallF 2 f__law_cell_at (sCons (sVar 0) (sCons (sC (.int 1)) sNil))) (sCons (s2 opAdd (sC (.int 40)) (sVarB 5)) sNil))))
def t__law_meeting_8 : RL.Env → SRes := (sMut mAppend (plVar 8) (sCons (sTup (sCons (sCl (sIx (sVarB 6) (sVarB 5))) (sCons (sCl (sIx (sIx (sVarB 4) (s2 opMod (sVarB 14) (sCall (on1 fLenX) (sCons (sVarB 4) sNil)))) (sC (.int 0)))) (sCons (sCl (sIx (sVarB 7) (s2 opMod (s2 opFdiv (sVarB 14) (sC (.int 6))) (sCall (on1 fLenX) (sCons (sVarB 7) sNil))))) sNil)))) sNil))
def k__law_meeting_9 : RL.Env → SRes := (sThen t__law_meeting_7
    t__law_meeting_8)
def t__law_meeting_9 : RL.Env → SRes := (sFor (sI rng1 (sCons (s2 opAdd (sC (.int 1)) (s2 opMod (sCallF 2 f__law_mixed (sCons (sCallF 2 f__law_cell_at (sCons (sVar 0) (sCons (sC (.int 1)) sNil))) (sCons (sC (.int 4)) sNil))) (sVarB 1))) sNil)) (.nm 5)
    k__law_meeting_9)
def t__law_meeting_10 : RL.Env → SRes := (sAsg (.nm 9) true (s2 opMod (s2 opFdiv (sCallF 2 f__law_cell_at (sCons (sVar 0) (sCons (sC (.int 2)) sNil))) (sC (.int 3))) (sC (.int 4))))
def l__law_meeting_11 : RL.Env → Res D := (sLc (sI rng1 (sCons (sVarB 9) sNil)) (.nm 5) [5] sYes (s2 opAdd (sC (.int 1)) (s2 opMod (sCallF 2 f__law_mixed (sCons (sCallF 2 f__law_cell_at (sCons (sVar 0) (sCons (sC (.int 2)) sNil))) (sCons (s2 opAdd (sC (.int 70)) (sVarB 5)) sNil))) (sIx (sLst (sCons (sC (.int 5)) (sCons (sC (.int 5)) (sCons (sC (.int 12)) sNil)))) (s2 opMod (sVarB 5) (sC (.int 3)))))))
def t__law_meeting_12 : RL.Env → SRes := (sAsg (.nm 10) true l__law_meeting_11)
def l__law_meeting_13 : RL.Env → Res D := (sLc (sSeq (sVarB 8)) (.nm 16) [16] sYes (sCl (sIx (sVarB 16) (sC (.int 2)))))
def t__law_meeting_14 : RL.Env → SRes := (sAsg (.nm 11) true (s2 opAdd l__law_meeting_13 (sLst (sCons (sC (.str "all")) sNil))))
def t__law_meeting_15 : RL.Env → SRes := (sAsg (.nm 12) false (sLst sNil))
def t__law_meeting_16 : RL.Env → SRes := (sAsg (.nm 13) true (sCallF 2 f__law_names (sCons (sCallF 2 f__law_mixed (sCons (sCallF 2 f__law_cell_at (sCons (sVar 0) (sCons (sC (.int 3)) sNil))) (sCons (sC (.int 5)) sNil))) (sCons (sC (.int 12)) sNil))))
def t__law_meeting_17 : RL.Env → SRes := (sAsg (.nm 14) true (sCallF 2 f__law_mixed (sCons (sCallF 2 f__law_cell_at (sCons (sVar 0) (sCons (sC (.int 3)) sNil))) (sCons (s2 opAdd (sC (.int 80)) (sVarB 5)) sNil))))
def t__law_meeting_18 : RL.Env → SRes := (sAsg (.nm 15) true (sIx (sLst (sCons (sC (.int 0)) (sCons (s2 opMod (sVarB 14) (sC (.int 40000))) (sCons (s2 opMod (sVarB 14) (sC (.int 359000))) sNil)))) (s2 opMod (sVarB 14) (sC (.int 3)))))
def t__law_meeting_19 : RL.Env → SRes := (sMut mAppend (plVar 12) (sCons (sTup (sCons (sCl (sIx (sVarB 13) (sVarB 5))) (sCons (sCl (sIx (sVarB 11) (s2 opMod (s2 opFdiv (sVarB 14) (sC (.int 3))) (sCall (on1 fLenX) (sCons (sVarB 11) sNil))))) (sCons (sVar 15) (sCons (s2 opMod (s2 opFdiv (sVarB 14) (sC (.int 100))) (sIx (sLst (sCons (sC (.int 1)) (sCons (sC (.int 300)) (sCons (sC (.int 10000)) sNil)))) (s2 opMod (sVarB 14) (sC (.int 3))))) sNil))))) sNil))
def k__law_meeting_21 : RL.Env → SRes := (sThen t__law_meeting_17
    (sThen t__law_meeting_18
    t__law_meeting_19))
def t__law_meeting_20 : RL.Env → SRes := (sFor (sI rng1 (sCons (s2 opMod (sCallF 2 f__law_mixed (sCons (sCallF 2 f__law_cell_at (sCons (sVar 0) (sCons (sC (.int 3)) sNil))) (sCons (sC (.int 6)) sNil))) (s2 opAdd (sVarB 2) (sC (.int 1)))) sNil)) (.nm 5)
    k__law_meeting_21)
def t__law_meeting_21 : RL.Env → SRes := (sRet (sTup (sCons (sCall (on1 fTux) (sCons (sVarB 4) sNil)) (sCons (sCall (on1 fTuple) (sCons (sVarB 8) sNil)) (sCons (sCall (on1 fTuple) (sCons (s1 fSortSet (sVarB 10)) sNil)) (sCons (sCall (on1 fTuple) (sCons (sVarB 12) sNil)) sNil))))))
def b__law_meeting : RL.Env → SRes := (sThen t__law_meeting_0
    (sThen t__law_meeting_1
    (sThen t__law_meeting_3
    (sThen t__law_meeting_4
    (sThen t__law_meeting_5
    (sThen t__law_meeting_6
    (sThen t__law_meeting_9
    (sThen t__law_meeting_10
    (sThen t__law_meeting_12
    (sThen t__law_meeting_14
    (sThen t__law_meeting_15
    (sThen t__law_meeting_16
    (sThen t__law_meeting_20
    t__law_meeting_21)))))))))))))
def f__law_meeting : List D → FR := runDef 17 [] b__law_meeting
def t__law_read_0 : RL.Env → SRes := (sAsg (.nm 2) true (sM1 fSplit (sVarB 1) (sC (.str " "))))
def l__law_read_1 : RL.Env → Res D := (sLc (sIter (sCl (sIx (sVarB 0) (sC (.int 3))))) (.nm 7) [7] sYes (sTup (sCons (sCl (sIx (sVarB 7) (sC (.int 0)))) (sCons (sVar 7) sNil))))
def t__law_read_2 : RL.Env → SRes := (sAsg (.nm 3) true (s1 fDict l__law_read_1))
def t__law_read_3 : RL.Env → SRes := (sAsg (.nm 4) true (sCallF 1 f__law_whole (sCons (sCl (sIx (sVarB 2) (sC (.int 0)))) sNil)))
def t__law_read_4 : RL.Env → SRes := (sIfS (sOrT (sTest (s2 opLt (sVarB 4) (sC (.int 1)))) (sTest (s2 oNotIn (sCall (on1 fLenX) (sCons (sVarB 2) sNil)) (sTup (sCons (sC (.int 3)) (sCons (sC (.int 5)) sNil)))))) (sRet (sC .non)) sNext)
def t__law_read_5 : RL.Env → SRes := (sRet (sIf (sTest (sChain opLt opLt (sC (.int 0)) (sCallF 1 f__law_whole (sCons (sCl (sIx (sVarB 2) (sC (.int 2)))) sNil)) (sVarB 4))) (sTup (sCons (sVar 4) (sCons (sC (.str "void")) (sCons (sCallF 1 f__law_whole (sCons (sCl (sIx (sVarB 2) (sC (.int 2)))) sNil)) sNil)))) (sC .non)))
def t__law_read_6 : RL.Env → SRes := (sIfS (sAndT (sTest (s2 opEq (sCall (on1 fLenX) (sCons (sVarB 2) sNil)) (sC (.int 3)))) (sTest (s2 opEq (sIx (sVarB 2) (sC (.int 1))) (sC (.str "void"))))) t__law_read_5 sNext)
def t__law_read_7 : RL.Env → SRes := (sIfS (sTest (s2 oNotIn (sIx (sVarB 2) (sC (.int 2))) (sVarB 3))) (sRet (sC .non)) sNext)
def t__law_read_8 : RL.Env → SRes := (sRet (sIf (sTest (s2 opEq (sIx (sVarB 2) (sC (.int 1))) (sC (.str "off")))) (sTup (sCons (sVar 4) (sCons (sC (.str "off")) (sCons (sCl (sIx (sVarB 2) (sC (.int 2)))) sNil)))) (sC .non)))
def t__law_read_9 : RL.Env → SRes := (sIfS (sTest (s2 opEq (sCall (on1 fLenX) (sCons (sVarB 2) sNil)) (sC (.int 3)))) t__law_read_8 sNext)
def t__law_read_10 : RL.Env → SRes := (sIfS (sTest (s2 oNotIn (sIx (sVarB 2) (sC (.int 3))) (sCallF 2 f__law_entered (sCons (sVar 0) (sCons (sCl (sIx (sVarB 3) (sIx (sVarB 2) (sC (.int 2))))) sNil))))) (sRet (sC .non)) sNext)
def t__law_read_11 : RL.Env → SRes := (sAsg (.nm 5) true (sCl (sIx (sVarB 2) (sC (.int 4)))))
def t__law_read_12 : RL.Env → SRes := (sAsg (.nm 5) true (sCallF 1 f__law_seconds (sCons (sCl (sIx (sVarB 2) (sC (.int 4)))) sNil)))
def t__law_read_13 : RL.Env → SRes := (sAsg (.nm 6) true (s2 opGe (sVarB 5) (sIx (sIx (sVarB 3) (sIx (sVarB 2) (sC (.int 2)))) (sC (.int 2)))))
def t__law_read_14 : RL.Env → SRes := (sAsg (.nm 5) true (sCallF 1 f__law_whole (sCons (sCl (sIx (sVarB 2) (sC (.int 4)))) sNil)))
def t__law_read_15 : RL.Env → SRes := (sAsg (.nm 6) true (sChain opLt opLt (sC (.int 0)) (sVarB 5) (sC (.int 21))))
def t__law_read_16 : RL.Env → SRes := (sAsg (.nm 6) true (s2 oIn (sVarB 5) (sTup (sCons (sC (.str "every")) (sCons (sC (.str "ahead")) sNil)))))
def t__law_read_17 : RL.Env → SRes := (sAsg (.nm 8) true (sTup (sCons (sC (.str "away")) (sCons (sC (.str "unstarted")) (sCons (sC (.str "early")) (sCons (sC (.str "unfinished")) (sCons (sC (.str "retired")) (sCons (sC (.str "out")) (sCons (sC (.str "barred")) sNil)))))))))
def t__law_read_18 : RL.Env → SRes := (sAsg (.nm 6) true (sAnd (s2 opEq (sIx (sVarB 2) (sC (.int 1))) (sC (.str "code"))) (s2 oIn (sVarB 5) (sVarB 8))))
def t__law_read_19 : RL.Env → SRes := (sIfS (sTest (s2 opEq (sIx (sVarB 2) (sC (.int 1))) (sC (.str "help")))) t__law_read_16 (sThen t__law_read_17
    t__law_read_18))
def t__law_read_20 : RL.Env → SRes := (sIfS (sTest (s2 opEq (sIx (sVarB 2) (sC (.int 1))) (sC (.str "cost")))) (sThen t__law_read_14
    t__law_read_15) t__law_read_19)
def t__law_read_21 : RL.Env → SRes := (sIfS (sTest (s2 opEq (sIx (sVarB 2) (sC (.int 1))) (sC (.str "finish")))) (sThen t__law_read_12
    t__law_read_13) t__law_read_20)
def t__law_read_22 : RL.Env → SRes := (sRet (sIf (sTest (sVar 6)) (sTup (sCons (sVar 4) (sCons (sCl (sIx (sVarB 2) (sC (.int 1)))) (sCons (sCl (sIx (sVarB 2) (sC (.int 2)))) (sCons (sCl (sIx (sVarB 2) (sC (.int 3)))) (sCons (sVar 5) sNil)))))) (sC .non)))
def b__law_read : RL.Env → SRes := (sThen t__law_read_0
    (sThen t__law_read_2
    (sThen t__law_read_3
    (sThen t__law_read_4
    (sThen t__law_read_6
    (sThen t__law_read_7
    (sThen t__law_read_9
    (sThen t__law_read_10
    (sThen t__law_read_11
    (sThen t__law_read_21
    t__law_read_22))))))))))
def f__law_read : List D → FR := runDef 9 [] b__law_read
def t_time_text_0 : RL.Env → SRes := (sExpr (sCallF 1 f_need_time (sCons (sVar 0) sNil)))
def t_time_text_1 : RL.Env → SRes := (sAsg (.tp [(.nm 1), (.nm 2)]) true (sCall (on2 fDivmod) (sCons (sVarB 0) (sCons (sC (.int 3600)) sNil))))
def t_time_text_2 : RL.Env → SRes := (sAsg (.tp [(.nm 3), (.nm 4)]) true (sCall (on2 fDivmod) (sCons (sVarB 2) (sCons (sC (.int 60)) sNil))))
def t_time_text_3 : RL.Env → SRes := (sRet (s2 opAdd (s2 opAdd (s2 opAdd (s2 opAdd (sCall (on1 fStr) (sCons (sVarB 1) sNil)) (sC (.str ":"))) (sM1 fZfill (sCall (on1 fStr) (sCons (sVarB 3) sNil)) (sC (.int 2)))) (sC (.str ":"))) (sM1 fZfill (sCall (on1 fStr) (sCons (sVarB 4) sNil)) (sC (.int 2)))))
def b_time_text : RL.Env → SRes := (sThen t_time_text_0
    (sThen t_time_text_1
    (sThen t_time_text_2
    t_time_text_3)))
def f_time_text : List D → FR := runDef 5 [] b_time_text
def t_Meeting___init___0 : RL.Env → SRes := (sAsg (.tp [(.nm 2), (.nm 3), (.nm 4), (.nm 5)]) true (sVar 1))
def l_Meeting___init___1 : RL.Env → Res D := (sLc (sIter (sTo D.tp1 (sVar 2))) (.tp [(.nm 8), (.nm 9)]) [8, 9] sYes (sTup (sCons (sVar 8) (sCons (sCallF 1 f_handicap_of (sCons (sVar 9) sNil)) sNil))))
def t_Meeting___init___2 : RL.Env → SRes := (sSetF cs_kinds "kinds" true (plVar 0) (s1 fDict l_Meeting___init___1))
def l_Meeting___init___3 : RL.Env → Res D := (sLc (sIter (sVar 3)) (.nm 6) [6] sYes (sTup (sCons (sCl (sIx (sVarB 6) (sC (.int 0)))) (sCons (sVar 6) sNil))))
def t_Meeting___init___4 : RL.Env → SRes := (sSetF cs_crews "crews" true (plVar 0) (s1 fDict l_Meeting___init___3))
def t_Meeting___init___5 : RL.Env → SRes := (sSetF cs_limits "limits" true (plVar 0) (sCall (on1 fTuple) (sCons (sVarB 4) sNil)))
def l_Meeting___init___6 : RL.Env → Res D := (sLc (sIter (sVar 5)) (.nm 7) [7] sYes (sTup (sCons (sCl (sIx (sVarB 7) (sC (.int 0)))) (sCons (sVar 7) sNil))))
def t_Meeting___init___7 : RL.Env → SRes := (sSetF cs_runs "runs" true (plVar 0) (s1 fDict l_Meeting___init___6))
def b_Meeting___init__ : RL.Env → SRes := (sThen t_Meeting___init___0
    (sThen t_Meeting___init___2
    (sThen t_Meeting___init___4
    (sThen t_Meeting___init___5
    t_Meeting___init___7))))
def f_Meeting___init__ : List D → FR := runDef 10 [0] b_Meeting___init__
abbrev tab_races : List (Str × (List D → FR)) := [("Meeting", f_Meeting_races)]
abbrev tab_entered : List (Str × (List D → FR)) := [("Meeting", f_Meeting_entered)]
def t_is_paper_0 : RL.Env → SRes := (sIfS (sOrT (sNot (sTest (s1 (fIsTy "tuple") (sVarB 1)))) (sOrT (sTest (s2 opLt (sCall (on1 fLenX) (sCons (sVarB 1) sNil)) (sC (.int 3)))) (sNot (sTest (sCallF 3 f_is_among (sCons (sCl (sIx (sVarB 1) (sC (.int 0)))) (sCons (sC (.int 1)) (sCons (sC (.int 9999)) sNil)))))))) (sRet (sC (.bl false))) sNext)
def t_is_paper_1 : RL.Env → SRes := (sIfS (sOrT (sTest (s2 opNe (sCall (on1 fLenX) (sCons (sVarB 1) sNil)) (sC (.int 5)))) (sOrT (sNot (sTest (sCallF 2 f_is_in (sCons (sCl (sIx (sVarB 1) (sC (.int 1)))) (sCons (sC (.tup [.str "finish", .str "code", .str "cost", .str "help"])) sNil))))) (sNot (sTest (sCallF 2 f_is_in (sCons (sCl (sIx (sVarB 1) (sC (.int 2)))) (sCons (sMeth "races" tab_races 1 (sVar 0) sNil) sNil))))))) (sRet (sC (.bl false))) sNext)
def t_is_paper_2 : RL.Env → SRes := (sRet (sAnd (sCallF 2 f_is_in (sCons (sCl (sIx (sVarB 1) (sC (.int 3)))) (sCons (sMeth "entered" tab_entered 2 (sVar 0) (sCons (sCl (sIx (sVarB 1) (sC (.int 2)))) sNil)) sNil))) (sCallF 4 f_is_told (sCons (sVar 0) (sCons (sCl (sIx (sVarB 1) (sC (.int 1)))) (sCons (sCl (sIx (sVarB 1) (sC (.int 2)))) (sCons (sCl (sIx (sVarB 1) (sC (.int 4)))) sNil)))))))
def t_is_paper_3 : RL.Env → SRes := (sIfS (sNot (sTest (sCallF 2 f_is_in (sCons (sCl (sIx (sVarB 1) (sC (.int 1)))) (sCons (sLst (sCons (sC (.str "off")) (sCons (sC (.str "void")) sNil))) sNil))))) (sThen t_is_paper_1
    t_is_paper_2) sNext)
def t_is_paper_4 : RL.Env → SRes := (sIfS (sTest (s2 opNe (sCall (on1 fLenX) (sCons (sVarB 1) sNil)) (sC (.int 3)))) (sRet (sC (.bl false))) sNext)
def t_is_paper_5 : RL.Env → SRes := (sRet (sCallF 3 f_is_among (sCons (sCl (sIx (sVarB 1) (sC (.int 2)))) (sCons (sC (.int 1)) (sCons (s2 opSub (sIx (sVarB 1) (sC (.int 0))) (sC (.int 1))) sNil)))))
def t_is_paper_6 : RL.Env → SRes := (sIfS (sTest (s2 opEq (sIx (sVarB 1) (sC (.int 1))) (sC (.str "void")))) t_is_paper_5 sNext)
def t_is_paper_7 : RL.Env → SRes := (sRet (sCallF 2 f_is_in (sCons (sCl (sIx (sVarB 1) (sC (.int 2)))) (sCons (sMeth "races" tab_races 1 (sVar 0) sNil) sNil))))
def b_is_paper : RL.Env → SRes := (sThen t_is_paper_0
    (sThen t_is_paper_3
    (sThen t_is_paper_4
    (sThen t_is_paper_6
    t_is_paper_7))))
def f_is_paper : List D → FR := runDef 2 [] b_is_paper
def t_need_paper_0 : RL.Env → SRes := (sIfS (sNot (sTest (sCallF 2 f_is_paper (sCons (sVar 0) (sCons (sVar 1) sNil))))) (sRaise "BadPaper") sNext)
def b_need_paper : RL.Env → SRes := t_need_paper_0
def f_need_paper : List D → FR := runDef 2 [] b_need_paper
def l_paper_text_0 : RL.Env → Res D := (sLc (sIter (sVar 0)) (.nm 2) [2] sYes (sCall (on1 fStr) (sCons (sVarB 2) sNil)))
def t_paper_text_1 : RL.Env → SRes := (sAsg (.nm 1) false l_paper_text_0)
def t_paper_text_2 : RL.Env → SRes := (sSetL (plVar 1) (s1 fNeg (sC (.int 1))) (sCallF 1 f_time_text (sCons (sCl (sIx (sVarB 0) (s1 fNeg (sC (.int 1))))) sNil)))
def t_paper_text_3 : RL.Env → SRes := (sIfS (sTest (s2 opEq (sIx (sVarB 0) (sC (.int 1))) (sC (.str "finish")))) t_paper_text_2 sNext)
def t_paper_text_4 : RL.Env → SRes := (sRet (sM1 fJoin (sC (.str " ")) (sVarB 1)))
def b_paper_text : RL.Env → SRes := (sThen t_paper_text_1
    (sThen t_paper_text_3
    t_paper_text_4))
def f_paper_text : List D → FR := runDef 3 [] b_paper_text
def t_meeting_of_0 : RL.Env → SRes := (sRet (sMake "Meeting" 2 f_Meeting___init__ (sCons (sVar 0) sNil)))
def b_meeting_of : RL.Env → SRes := t_meeting_of_0
def f_meeting_of : List D → FR := runDef 1 [] b_meeting_of
def t_paper_read_0 : RL.Env → SRes := (sIfS (sNot (sTest (s1 (fIsTy "str") (sVarB 1)))) (sRaise "BadPaper") sNext)
def t_paper_read_1 : RL.Env → SRes := (sAsg (.nm 2) true (sM1 fSplit (sVarB 1) (sC (.str " "))))
def t_paper_read_2 : RL.Env → SRes := (sAsg (.nm 3) false (s2 opAdd (sLst (sCons (sCallF 1 f_number_in (sCons (sCl (sIx (sVarB 2) (sC (.int 0)))) sNil)) sNil)) (sSl (sVarB 2) (sPs (sC (.int 1))) sPn)))
def t_paper_read_3 : RL.Env → SRes := (sSetL (plVar 3) (s1 fNeg (sC (.int 1))) (sCallF 1 f_number_in (sCons (sCl (sIx (sVarB 2) (s1 fNeg (sC (.int 1))))) sNil)))
def t_paper_read_4 : RL.Env → SRes := (sIfS (sAndT (sTest (s2 opGt (sCall (on1 fLenX) (sCons (sVarB 2) sNil)) (sC (.int 2)))) (sTest (s2 oIn (sIx (sVarB 2) (sC (.int 1))) (sTup (sCons (sC (.str "cost")) (sCons (sC (.str "void")) sNil)))))) t_paper_read_3 sNext)
def t_paper_read_5 : RL.Env → SRes := (sSetL (plVar 3) (s1 fNeg (sC (.int 1))) (sCallF 1 f_time_in (sCons (sCl (sIx (sVarB 2) (s1 fNeg (sC (.int 1))))) sNil)))
def t_paper_read_6 : RL.Env → SRes := (sIfS (sAndT (sTest (s2 opGt (sCall (on1 fLenX) (sCons (sVarB 2) sNil)) (sC (.int 2)))) (sTest (s2 opEq (sIx (sVarB 2) (sC (.int 1))) (sC (.str "finish"))))) t_paper_read_5 sNext)
def t_paper_read_7 : RL.Env → SRes := (sAsg (.nm 4) true (sCall (on1 fTuple) (sCons (sVarB 3) sNil)))
def t_paper_read_8 : RL.Env → SRes := (sExpr (sCallF 2 f_need_paper (sCons (sVar 0) (sCons (sVar 4) sNil))))
def b_paper_read : RL.Env → SRes := (sThen t_paper_read_0
    (sThen t_paper_read_1
    (sThen t_paper_read_2
    (sThen t_paper_read_4
    (sThen t_paper_read_6
    (sThen t_paper_read_7
    (sThen t_paper_read_8
    (sRet (sVar 4)))))))))
def f_paper_read : List D → FR := runDef 5 [] b_paper_read
def t__law_told_0 : RL.Env → SRes := (sAsg (.nm 2) true (sC .non))
def t__law_told_1 : RL.Env → SRes := (sAsg (.nm 3) true (sC .non))
def t__law_told_2 : RL.Env → SRes := (sAsg (.nm 3) true (sCallF 2 f_paper_read (sCons (sVar 0) (sCons (sVar 1) sNil))))
def t__law_told_3 : RL.Env → SRes := (sAsg (.nm 2) true (sVar 4))
def t__law_told_4 : RL.Env → SRes := (sTryAs 4 sub_RaceError t__law_told_2 t__law_told_3)
def t__law_told_5 : RL.Env → SRes := (sRet (sIf (sTest (s2 opIs (sVarB 2) (sC .non))) (sVar 3) (sCallF 1 f__law_kinds (sCons (sVar 2) sNil))))
def b__law_told : RL.Env → SRes := (sThen t__law_told_0
    (sThen t__law_told_1
    (sThen t__law_told_4
    t__law_told_5)))
def f__law_told : List D → FR := runDef 5 [] b__law_told
def t_law_0 : RL.Env → SRes := (sAsg (.nm 1) true (sCallF 3 f__law_meeting (sCons (sVar 0) (sCons (sC (.int 8)) (sCons (sC (.int 4)) sNil)))))
def t_law_1 : RL.Env → SRes := (sAsg (.nm 2) true (sCallF 1 f_meeting_of (sCons (sVar 1) sNil)))
def t_law_2 : RL.Env → SRes := (sAsg (.nm 5) true (sCallF 3 f__law_paper (sCons (sCallF 2 f__law_mixed (sCons (sVar 4) (sCons (s2 opAdd (sC (.int 300)) (sVarB 3)) sNil))) (sCons (sVar 1) (sCons (s2 opAdd (sC (.int 2)) (s2 opMod (sCallF 2 f__law_mixed (sCons (sVar 4) (sCons (s2 opAdd (sC (.int 350)) (sVarB 3)) sNil))) (sC (.int 9998)))) sNil)))))
def t_law_3 : RL.Env → SRes := (sAsg (.nm 6) true (sCallF 1 f__law_text (sCons (sVar 5) sNil)))
def t_law_4 : RL.Env → SRes := (sIfS (sTest (s2 opNe (sCallF 1 f_paper_text (sCons (sVar 5) sNil)) (sVarB 6))) (sRet (sC (.bl false))) sNext)
def t_law_5 : RL.Env → SRes := (sAsg (.nm 7) true (sCallF 3 f__law_bent (sCons (sVar 1) (sCons (sVar 6) (sCons (sCallF 2 f__law_mixed (sCons (sVar 4) (sCons (s2 opAdd (sC (.int 380)) (sVarB 3)) sNil))) sNil)))))
def t_law_6 : RL.Env → SRes := (sAsg (.nm 10) true (sCallF 2 f__law_read (sCons (sVar 1) (sCons (sVar 8) sNil))))
def t_law_7 : RL.Env → SRes := (sIfS (sTest (s2 opNe (sCall fRepr (sCons (sCallF 2 f__law_told (sCons (sVar 2) (sCons (sVar 8) sNil))) sNil)) (sCall fRepr (sCons (sIf (sTest (s2 opIs (sVarB 10) (sC .non))) (sLst (sCons (sC (.str "paper")) sNil)) (sVar 10)) sNil)))) (sRet (sC (.bl false))) sNext)
def k_law_8 : RL.Env → SRes := (sThen t_law_6
    t_law_7)
def t_law_8 : RL.Env → SRes := (sFor (sIter (sFz (sTup (sCons (sVar 6) (sCons (sVar 7) (sCons (sVar 6) sNil)))))) (.nm 8)
    k_law_8)
def t_law_9 : RL.Env → SRes := (sAsg (.nm 9) true (sIx (sLst (sCons (sC .non) (sCons (sC (.int 5)) (sCons (sC (.bl true)) (sCons (sLst (sCons (sVar 6) sNil)) (sCons (sTup (sCons (sVar 6) sNil)) (sCons (sC (.dct true [] [])) (sCons (sVar 5) (sCons (sC (.str "")) sNil))))))))) (s2 opMod (sCallF 2 f__law_mixed (sCons (sVar 4) (sCons (s2 opAdd (sC (.int 395)) (sVarB 3)) sNil))) (sC (.int 8)))))
def t_law_10 : RL.Env → SRes := (sIfS (sTest (s2 opNe (sCall fRepr (sCons (sCallF 2 f__law_told (sCons (sVar 2) (sCons (sVar 9) sNil))) sNil)) (sCall fRepr (sCons (sLst (sCons (sC (.str "paper")) sNil)) sNil)))) (sRet (sC (.bl false))) sNext)
def t_law_11 : RL.Env → SRes := (sIfS (sTest (s2 opNe (sCall fRepr (sCons (sCallF 2 f__law_told (sCons (sVar 2) (sCons (sVar 6) sNil))) sNil)) (sCall fRepr (sCons (sVarB 5) sNil)))) (sRet (sC (.bl false))) sNext)
def k_law_13 : RL.Env → SRes := (sThen t_law_2
    (sThen t_law_3
    (sThen t_law_4
    (sThen t_law_5
    (sThen t_law_8
    (sThen t_law_9
    (sThen t_law_10
    t_law_11)))))))
def t_law_12 : RL.Env → SRes := (sFor (sI enum1 (sCons (s2 opAdd (sCall (on1 fListX) (sCons (sSl (sVarB 0) (sPs (sC (.int 4))) (sPs (sC (.int 63)))) sNil)) (sLst (sCons (sC (.int 0)) sNil))) sNil)) (.tp [(.nm 3), (.nm 4)])
    k_law_13)
def b_law : RL.Env → SRes := (sThen t_law_0
    (sThen t_law_1
    (sThen t_law_12
    (sRet (sC (.bl true))))))
def f_law : List D → FR := runDef 11 [] b_law
end Lk21
namespace Lk21
open PySem PySem.Spec PyProof.Rows L2 RL
abbrev N_is_whole : List Str := ["thing"]
theorem c_is_whole : FnScope N_is_whole ["thing"] (defScope s_is_whole) := ⟨rfl, rfl, rfl, by decide +kernel, rfl, by decide +kernel, by decide +kernel⟩
theorem o_is_whole {P : Program} {w : World} {K : PySem.W.Frag} {mg : Str → Option Value} {base : Heap} {f : Addr} {fd : FuncData} (F : Fun K "is_whole" "is_whole" s_is_whole f fd) (g : mg "is_whole" = some (.ref f)) (m_bool : mg "bool" = none) (m_int : mg "int" = none) (m_isinstance : mg "isinstance" = none) :
    DefOk P w K mg base "is_whole" 1 ["thing"] f_is_whole := DefOk.mk' F g (fn_ok F c_is_whole List.nodup_nil (by
  rintro X W cdv A outer s H E rfl hr tk hp
  exact (ss_one (s_ret (e_and (e_isTy "int" m_isinstance m_int (by decide +kernel) (b_var 0)) (e_one (e_not (e_isTy "bool" m_isinstance m_bool (by decide +kernel) (b_var 0))))))))) fun _ _ _ _ _ _ us hl => match us, hl with | [_], _ => rfl
abbrev N_are_figures : List Str := ["text", "least", "most", "sign"]
theorem c_are_figures : FnScope N_are_figures ["text", "least", "most"] (defScope s_are_figures) := ⟨rfl, rfl, rfl, by decide +kernel, rfl, by decide +kernel, by decide +kernel⟩
theorem o_are_figures {P : Program} {w : World} {K : PySem.W.Frag} {mg : Str → Option Value} {base : Heap} {f : Addr} {fd : FuncData} (F : Fun K "are_figures" "are_figures" s_are_figures f fd) (g : mg "are_figures" = some (.ref f)) (m_FIGURES : ∃ t, mg "FIGURES" = some (.str "0123456789" t)) (m_all : mg "all" = none) (m_len : mg "len" = none) :
    DefOk P w K mg base "are_figures" 1 ["text", "least", "most"] f_are_figures := DefOk.mk' F g (fn_ok F c_are_figures List.nodup_nil (by
  rintro X W cdv A outer s H E rfl hr tk hp
  exact (ss_one (s_ret (e_and (e_chain o_le o_le (b_var 1) (EOk.bo (e_callB c_lenX m_len (by decide +kernel) (ab_cons (b_var 0) ab_nil))) (b_var 2)) (e_one (e_callB (c_all rfl) m_all (by decide +kernel) (ab_cons (EOk.bo (e_lc rfl c_are_figures.nd (bor := true) (own := [("sign", 3)]) (i_any (bor := true) (e_var 0)) (blkOk_by (own := [("sign", 3)]) (N := N_are_figures) (sc := defScope s_are_figures) (by decide +kernel)) (by decide) (fun _ _ _ _ _ => (g_nm 3 c_are_figures.nd)) (fun _ _ _ _ _ => ts_nil) (fun _ _ _ _ _ => (e_cmp (o_in hr.r) (b_var 3) (EOk.bo (e_globS m_FIGURES)))))) ab_nil)))))))) fun _ _ _ _ _ _ us hl => match us, hl with | [_, _, _], _ => rfl
abbrev N_Handicap___init__ : List Str := ["self", "bearing"]
theorem c_Handicap___init__ : FnScope N_Handicap___init__ ["self", "bearing"] (defScope s_Handicap___init__) := ⟨rfl, rfl, rfl, by decide +kernel, rfl, by decide +kernel, by decide +kernel⟩
theorem o_Handicap___init__ {P : Program} {w : World} {K : PySem.W.Frag} {mg : Str → Option Value} {base : Heap} {f : Addr} {fd : FuncData} (F : Fun K "__init__" "Handicap.__init__" s_Handicap___init__ f fd) (fl_bearing : FldOk K mg "bearing" cs_bearing) :
    FnG P w K mg base 1 f fd ["self", "bearing"] (spF ⟨K, mg⟩ 2 [0] f_Handicap___init__) := (fn_ok F c_Handicap___init__ (by decide) (by
  rintro X W cdv A outer s H E rfl hr tk hp
  exact (ss_one (s_setF true fl_bearing (pl_var 0) (e_var 1)))))
abbrev N_is_in : List Str := ["thing", "some"]
theorem c_is_in : FnScope N_is_in ["thing", "some"] (defScope s_is_in) := ⟨rfl, rfl, rfl, by decide +kernel, rfl, by decide +kernel, by decide +kernel⟩
theorem o_is_in {P : Program} {w : World} {K : PySem.W.Frag} {mg : Str → Option Value} {base : Heap} {f : Addr} {fd : FuncData} (F : Fun K "is_in" "is_in" s_is_in f fd) (g : mg "is_in" = some (.ref f)) (m_isinstance : mg "isinstance" = none) (m_str : mg "str" = none) :
    DefOk P w K mg base "is_in" 1 ["thing", "some"] f_is_in := DefOk.mk' F g (fn_ok F c_is_in List.nodup_nil (by
  rintro X W cdv A outer s H E rfl hr tk hp
  exact (ss_one (s_ret (e_and (e_isTy "str" m_isinstance m_str (by decide +kernel) (b_var 0)) (e_one (e_cmp (o_in hr.r) (b_var 0) (b_var 1)))))))) fun _ _ _ _ _ _ us hl => match us, hl with | [_, _], _ => rfl
abbrev N_Meeting_fleets : List Str := ["self", "boat"]
theorem c_Meeting_fleets : FnScope N_Meeting_fleets ["self"] (defScope s_Meeting_fleets) := ⟨rfl, rfl, rfl, by decide +kernel, rfl, by decide +kernel, by decide +kernel⟩
theorem o_Meeting_fleets {P : Program} {w : World} {K : PySem.W.Frag} {mg : Str → Option Value} {base : Heap} {f : Addr} {fd : FuncData} (F : Fun K "fleets" "Meeting.fleets" s_Meeting_fleets f fd) (fl_crews : FldOk K mg "crews" cs_crews) (m_dict : mg "dict" = none) (m_list : mg "list" = none) :
    FnG P w K mg base 1 f fd ["self"] (spF ⟨K, mg⟩ 1 [] f_Meeting_fleets) := (fn_ok F c_Meeting_fleets List.nodup_nil (by
  rintro X W cdv A outer s H E rfl hr tk hp
  exact (ss_one (s_ret (e_callTy (c_listX rfl) m_list (by decide +kernel) (ab_cons (EOk.bo (e_dict rfl m_dict (e_lc rfl c_Meeting_fleets.nd (bor := true) (own := [("boat", 1)]) (i_vals (bor := true) (BOk.eo (b_fld fl_crews (b_var 0)))) (blkOk_by (own := [("boat", 1)]) (N := N_Meeting_fleets) (sc := defScope s_Meeting_fleets) (by decide +kernel)) (by decide) (fun _ _ _ _ _ => (g_nm 1 c_Meeting_fleets.nd)) (fun _ _ _ _ _ => ts_nil) (fun _ _ _ _ _ => (e_tup (a_cons (BOk.eo (b_sub (hu_of hr.r) (b_var 1) (EOk.bo e_int))) (a_cons e_bl a_nil))))))) ab_nil))))))
abbrev N_Meeting_races : List Str := ["self"]
theorem c_Meeting_races : FnScope N_Meeting_races ["self"] (defScope s_Meeting_races) := ⟨rfl, rfl, rfl, by decide +kernel, rfl, by decide +kernel, by decide +kernel⟩
theorem o_Meeting_races {P : Program} {w : World} {K : PySem.W.Frag} {mg : Str → Option Value} {base : Heap} {f : Addr} {fd : FuncData} (F : Fun K "races" "Meeting.races" s_Meeting_races f fd) (fl_runs : FldOk K mg "runs" cs_runs) (m_list : mg "list" = none) :
    FnG P w K mg base 1 f fd ["self"] (spF ⟨K, mg⟩ 1 [] f_Meeting_races) := (fn_ok F c_Meeting_races List.nodup_nil (by
  rintro X W cdv A outer s H E rfl hr tk hp
  exact (ss_one (s_ret (e_callTy (c_listX rfl) m_list (by decide +kernel) (ab_cons (b_fld fl_runs (b_var 0)) ab_nil))))))
abbrev N__law_cell_at : List Str := ["_law_script", "_law_k"]
theorem c__law_cell_at : FnScope N__law_cell_at ["_law_script", "_law_k"] (defScope s__law_cell_at) := ⟨rfl, rfl, rfl, by decide +kernel, rfl, by decide +kernel, by decide +kernel⟩
theorem o__law_cell_at {P : Program} {w : World} {K : PySem.W.Frag} {mg : Str → Option Value} {base : Heap} {f : Addr} {fd : FuncData} (F : Fun K "_law_cell_at" "_law_cell_at" s__law_cell_at f fd) (g : mg "_law_cell_at" = some (.ref f)) (m_len : mg "len" = none) :
    DefOk P w K mg base "_law_cell_at" 1 ["_law_script", "_law_k"] f__law_cell_at := DefOk.mk' F g (fn_ok F c__law_cell_at List.nodup_nil (by
  rintro X W cdv A outer s H E rfl hr tk hp
  exact (ss_cons (s_if (t_cmp o_lt (b_var 1) (EOk.bo (e_callB c_lenX m_len (by decide +kernel) (ab_cons (b_var 0) ab_nil)))) (ss_one (s_ret (BOk.eo (b_sub (hu_of hr.r) (b_var 0) (b_var 1))))) ss_nil)
    (ss_one (s_ret e_int))))) fun _ _ _ _ _ _ us hl => match us, hl with | [_, _], _ => rfl
abbrev N__law_mixed : List Str := ["_law_cell", "_law_k", "_law_number"]
theorem c__law_mixed : FnScope N__law_mixed ["_law_cell", "_law_k"] (defScope s__law_mixed) := ⟨rfl, rfl, rfl, by decide +kernel, rfl, by decide +kernel, by decide +kernel⟩
theorem o__law_mixed {P : Program} {w : World} {K : PySem.W.Frag} {mg : Str → Option Value} {base : Heap} {f : Addr} {fd : FuncData} (F : Fun K "_law_mixed" "_law_mixed" s__law_mixed f fd) (g : mg "_law_mixed" = some (.ref f))  :
    DefOk P w K mg base "_law_mixed" 1 ["_law_cell", "_law_k"] f__law_mixed := DefOk.mk' F g (fn_ok F c__law_mixed List.nodup_nil (by
  rintro X W cdv A outer s H E rfl hr tk hp
  exact (ss_cons (s_set 2 (f := true) c__law_mixed.nd (e_op o_mod (EOk.bo (e_op o_add (EOk.bo (e_op o_add (EOk.bo (e_op o_mul (b_var 0) (EOk.bo e_int))) (EOk.bo (e_op o_mul (EOk.bo e_int) (b_var 1))))) (EOk.bo e_int))) (EOk.bo e_int)))
    (ss_one (s_ret (e_op o_mod (EOk.bo (e_op o_mul (EOk.bo (e_op o_mod (EOk.bo (e_op o_mul (b_var 2) (b_var 2))) (EOk.bo e_int))) (b_var 2))) (EOk.bo e_int))))))) fun _ _ _ _ _ _ us hl => match us, hl with | [_, _], _ => rfl
abbrev N__law_entered : List Str := ["_law_plain", "_law_race", "_law_boat"]
theorem c__law_entered : FnScope N__law_entered ["_law_plain", "_law_race"] (defScope s__law_entered) := ⟨rfl, rfl, rfl, by decide +kernel, rfl, by decide +kernel, by decide +kernel⟩
theorem o__law_entered {P : Program} {w : World} {K : PySem.W.Frag} {mg : Str → Option Value} {base : Heap} {f : Addr} {fd : FuncData} (F : Fun K "_law_entered" "_law_entered" s__law_entered f fd) (g : mg "_law_entered" = some (.ref f))  :
    DefOk P w K mg base "_law_entered" 1 ["_law_plain", "_law_race"] f__law_entered := DefOk.mk' F g (fn_ok F c__law_entered List.nodup_nil (by
  rintro X W cdv A outer s H E rfl hr tk hp
  exact (ss_one (s_ret (e_lc rfl c__law_entered.nd (bor := true) (own := [("_law_boat", 2)]) (i_any (bor := true) (BOk.eo (b_sub (hu_of hr.r) (b_var 0) (EOk.bo e_int)))) (blkOk_by (own := [("_law_boat", 2)]) (N := N__law_entered) (sc := defScope s__law_entered) (by decide +kernel)) (by decide) (fun _ _ _ _ _ => (g_nm 2 c__law_entered.nd)) (fun _ _ _ _ _ => (ts_one (t_cmp (o_in hr.r) (b_sub (hu_of hr.r) (b_var 1) (EOk.bo e_int)) (EOk.bo (e_tup (a_cons e_str (a_cons (BOk.eo (b_sub (hu_of hr.r) (b_var 2) (EOk.bo e_int))) a_nil))))))) (fun _ _ _ _ _ => (BOk.eo (b_sub (hu_of hr.r) (b_var 2) (EOk.bo e_int))))))))) fun _ _ _ _ _ _ us hl => match us, hl with | [_, _], _ => rfl
abbrev N__law_time_text : List Str := ["_law_time"]
theorem c__law_time_text : FnScope N__law_time_text ["_law_time"] (defScope s__law_time_text) := ⟨rfl, rfl, rfl, by decide +kernel, rfl, by decide +kernel, by decide +kernel⟩
theorem o__law_time_text {P : Program} {w : World} {K : PySem.W.Frag} {mg : Str → Option Value} {base : Heap} {f : Addr} {fd : FuncData} (F : Fun K "_law_time_text" "_law_time_text" s__law_time_text f fd) (g : mg "_law_time_text" = some (.ref f)) (m_str : mg "str" = none) :
    DefOk P w K mg base "_law_time_text" 1 ["_law_time"] f__law_time_text := DefOk.mk' F g (fn_ok F c__law_time_text List.nodup_nil (by
  rintro X W cdv A outer s H E rfl hr tk hp
  exact (ss_one (s_ret (e_join (EOk.bo e_str) (EOk.bo (e_lst (a_cons (e_callTy c_str m_str (by decide +kernel) (ab_cons (EOk.bo (e_op o_fdiv (b_var 0) (EOk.bo e_int))) ab_nil)) (a_cons (e_slice (EOk.bo (e_callTy c_str m_str (by decide +kernel) (ab_cons (EOk.bo (e_op o_add (EOk.bo e_int) (EOk.bo (e_op o_mod (EOk.bo (e_op o_fdiv (b_var 0) (EOk.bo e_int))) (EOk.bo e_int))))) ab_nil))) (p_some (EOk.bo e_int)) p_none) (a_cons (e_slice (EOk.bo (e_callTy c_str m_str (by decide +kernel) (ab_cons (EOk.bo (e_op o_add (EOk.bo e_int) (EOk.bo (e_op o_mod (b_var 0) (EOk.bo e_int))))) ab_nil))) (p_some (EOk.bo e_int)) p_none) a_nil)))))))))) fun _ _ _ _ _ _ us hl => match us, hl with | [_], _ => rfl
abbrev N__law_kinds : List Str := ["_law_e", "_law_some", "_law_word", "_law_fits"]
theorem c__law_kinds : FnScope N__law_kinds ["_law_e"] (defScope s__law_kinds) := ⟨rfl, rfl, rfl, by decide +kernel, rfl, by decide +kernel, by decide +kernel⟩
theorem o__law_kinds {P : Program} {w : World} {K : PySem.W.Frag} {mg : Str → Option Value} {base : Heap} {f : Addr} {fd : FuncData} (F : Fun K "_law_kinds" "_law_kinds" s__law_kinds f fd) (g : mg "_law_kinds" = some (.ref f)) (ie_BadPaper : ∃ D, mg "BadPaper" = some (.ref D) ∧ IsExc K mg (.ref D) ist_BadPaper) (ie_BadTime : ∃ D, mg "BadTime" = some (.ref D) ∧ IsExc K mg (.ref D) ist_BadTime) (ie_BadText : ∃ D, mg "BadText" = some (.ref D) ∧ IsExc K mg (.ref D) ist_BadText) (ie_NoName : ∃ D, mg "NoName" = some (.ref D) ∧ IsExc K mg (.ref D) ist_NoName) (ie_NoNumber : ∃ D, mg "NoNumber" = some (.ref D) ∧ IsExc K mg (.ref D) ist_NoNumber) (ie_BadPair : ∃ D, mg "BadPair" = some (.ref D) ∧ IsExc K mg (.ref D) ist_BadPair) (it_ValueError : IsExc K mg (.type "ValueError") ist_ValueError) (m_ValueError : mg "ValueError" = none) (m_int : mg "int" = none) (m_isinstance : mg "isinstance" = none) :
    DefOk P w K mg base "_law_kinds" 1 ["_law_e"] f__law_kinds := DefOk.mk' F g (fn_ok F c__law_kinds List.nodup_nil (by
  rintro X W cdv A outer s H E rfl hr tk hp
  exact (ss_cons (s_set 1 (f := true) c__law_kinds.nd (e_lst (a_cons (e_tup (a_cons e_str (a_cons (e_isExc ie_BadText m_isinstance (b_var 0)) a_nil))) (a_cons (e_tup (a_cons e_str (a_cons (e_isExc ie_BadTime m_isinstance (b_var 0)) a_nil))) (a_cons (e_tup (a_cons e_str (a_cons (e_isExc ie_BadPaper m_isinstance (b_var 0)) a_nil))) a_nil)))))
    (ss_cons (s_set 1 (f := true) c__law_kinds.nd (e_op o_add (b_var 1) (EOk.bo (e_lst (a_cons (e_tup (a_cons e_str (a_cons (e_isExc ie_NoNumber m_isinstance (b_var 0)) a_nil))) (a_cons (e_tup (a_cons e_str (a_cons (e_isExc ie_NoName m_isinstance (b_var 0)) a_nil))) a_nil))))))
    (ss_cons (s_set 1 (f := true) c__law_kinds.nd (e_op o_add (b_var 1) (EOk.bo (e_lst (a_cons (e_tup (a_cons e_str (a_cons (e_isExc ie_BadPair m_isinstance (b_var 0)) a_nil))) a_nil)))))
    (ss_one (s_ret (e_op o_add (EOk.bo (e_lc rfl c__law_kinds.nd (bor := true) (own := [("_law_word", 2), ("_law_fits", 3)]) (i_any (bor := true) (e_var 1)) (blkOk_by (own := [("_law_word", 2), ("_law_fits", 3)]) (N := N__law_kinds) (sc := defScope s__law_kinds) (by decide +kernel)) (by decide) (fun _ _ _ _ _ => (g_tup rfl (gs_cons (g_nm 2 c__law_kinds.nd) (gs_cons (g_nm 3 c__law_kinds.nd) gs_nil)))) (fun _ _ _ _ _ => (ts_one (t_val (e_var 3)))) (fun _ _ _ _ _ => (e_var 2)))) (EOk.bo (e_op o_mul (EOk.bo (e_lst (a_cons e_str a_nil))) (EOk.bo (e_callTy c_int m_int (by decide +kernel) (ab_cons (EOk.bo (e_not (e_isExcTy "ValueError" it_ValueError m_isinstance m_ValueError (by decide +kernel) (b_var 0)))) ab_nil))))))))))))) fun _ _ _ _ _ _ us hl => match us, hl with | [_], _ => rfl
abbrev N__law_whole : List Str := ["_law_word", "_law_sign"]
theorem c__law_whole : FnScope N__law_whole ["_law_word"] (defScope s__law_whole) := ⟨rfl, rfl, rfl, by decide +kernel, rfl, by decide +kernel, by decide +kernel⟩
theorem o__law_whole {P : Program} {w : World} {K : PySem.W.Frag} {mg : Str → Option Value} {base : Heap} {f : Addr} {fd : FuncData} (F : Fun K "_law_whole" "_law_whole" s__law_whole f fd) (g : mg "_law_whole" = some (.ref f)) (m_int : mg "int" = none) (m_len : mg "len" = none) :
    DefOk P w K mg base "_law_whole" 1 ["_law_word"] f__law_whole := DefOk.mk' F g (fn_ok F c__law_whole List.nodup_nil (by
  rintro X W cdv A outer s H E rfl hr tk hp
  exact (ss_cons (s_if (WOk.t (w_or (t_not (t_chain o_lt o_lt (EOk.bo e_int) (EOk.bo (e_callB c_lenX m_len (by decide +kernel) (ab_cons (b_var 0) ab_nil))) (EOk.bo e_int))) (w_or1 (t_cmp (o_ne hr.r) (EOk.bo (e_lc rfl c__law_whole.nd (bor := true) (own := [("_law_sign", 1)]) (i_any (bor := true) (e_var 0)) (blkOk_by (own := [("_law_sign", 1)]) (N := N__law_whole) (sc := defScope s__law_whole) (by decide +kernel)) (by decide) (fun _ _ _ _ _ => (g_nm 1 c__law_whole.nd)) (fun _ _ _ _ _ => (ts_one (t_cmp (o_notin hr.r) (b_var 1) (EOk.bo e_str)))) (fun _ _ _ _ _ => (e_var 1)))) (EOk.bo (e_lst a_nil)))))) (ss_one (s_ret (e_neg (EOk.bo e_int)))) ss_nil)
    (ss_one (s_ret (e_if (WOk.t (w_and (t_cmp (o_eq hr.r) (b_sub (hu_of hr.r) (b_var 0) (EOk.bo e_int)) (EOk.bo e_str)) (w_and1 (t_cmp (o_ne hr.r) (b_var 0) (EOk.bo e_str))))) (e_neg (EOk.bo e_int)) (e_callTy c_int m_int (by decide +kernel) (ab_cons (b_var 0) ab_nil)))))))) fun _ _ _ _ _ _ us hl => match us, hl with | [_], _ => rfl
abbrev N__law_bent : List Str := ["_law_plain", "_law_text_here", "_law_cell", "_law_words", "_law_more", "_law_at", "_law_pool", "_law_word", "_law_spot", "_law_sign", "_law_row"]
theorem c__law_bent : FnScope N__law_bent ["_law_plain", "_law_text_here", "_law_cell"] (defScope s__law_bent) := ⟨rfl, rfl, rfl, by decide +kernel, rfl, by decide +kernel, by decide +kernel⟩
theorem o__law_bent {P : Program} {w : World} {K : PySem.W.Frag} {mg : Str → Option Value} {base : Heap} {f : Addr} {fd : FuncData} (F : Fun K "_law_bent" "_law_bent" s__law_bent f fd) (g : mg "_law_bent" = some (.ref f)) (m_int : mg "int" = none) (m_len : mg "len" = none) :
    DefOk P w K mg base "_law_bent" 1 ["_law_plain", "_law_text_here", "_law_cell"] f__law_bent := DefOk.mk' F g (fn_ok F c__law_bent List.nodup_nil (by
  rintro X W cdv A outer s H E rfl hr tk hp
  exact (ss_cons (s_set 3 (f := true) c__law_bent.nd (e_split (b_var 1) (EOk.bo e_str)))
    (ss_cons (s_set 4 (f := true) c__law_bent.nd (e_op o_fdiv (b_var 2) (EOk.bo e_int)))
    (ss_cons (s_set 5 (f := true) c__law_bent.nd (e_op o_mod (b_var 4) (EOk.bo (e_callB c_lenX m_len (by decide +kernel) (ab_cons (b_var 3) ab_nil)))))
    (ss_cons (s_set 6 (f := true) c__law_bent.nd (e_op o_addA (EOk.bo (e_lc rfl c__law_bent.nd (bor := true) (own := [("_law_row", 10)]) (i_any (bor := true) (e_op o_addA (EOk.bo (e_op o_addA (b_tp1 (b_sub (hu_of hr.r) (b_var 0) (EOk.bo e_int))) (b_sub (hu_of hr.r) (b_var 0) (EOk.bo e_int)))) (b_sub (hu_of hr.r) (b_var 0) (EOk.bo e_int)))) (blkOk_by (own := [("_law_row", 10)]) (N := N__law_bent) (sc := defScope s__law_bent) (by decide +kernel)) (by decide) (fun _ _ _ _ _ => (g_nm 10 c__law_bent.nd)) (fun _ _ _ _ _ => ts_nil) (fun _ _ _ _ _ => (BOk.eo (b_sub (hu_of hr.r) (b_var 10) (EOk.bo e_int)))))) (EOk.bo (e_lst (a_cons e_str (a_cons e_str (a_cons e_str (a_cons e_str (a_cons e_str (a_cons e_str (a_cons e_str a_nil)))))))))))
    (ss_cons (s_set 6 (f := true) c__law_bent.nd (e_op o_addA (b_var 6) (EOk.bo (e_lst (a_cons e_str (a_cons e_str (a_cons e_str (a_cons e_str (a_cons e_str (a_cons e_str (a_cons e_str (a_cons e_str (a_cons e_str (a_cons e_str (a_cons e_str a_nil)))))))))))))))
    (ss_cons (s_set 6 (f := true) c__law_bent.nd (e_op o_addA (b_var 6) (EOk.bo (e_lst (a_cons e_str (a_cons e_str (a_cons e_str (a_cons e_str (a_cons e_str (a_cons e_str (a_cons e_str (a_cons e_str (a_cons e_str (a_cons e_str (a_cons e_str (a_cons e_str (a_cons e_str a_nil)))))))))))))))))
    (ss_cons (s_set 7 (f := true) c__law_bent.nd (BOk.eo (b_sub (hu_of hr.r) (b_var 6) (EOk.bo (e_op o_mod (EOk.bo (e_op o_fdiv (b_var 4) (EOk.bo e_int))) (EOk.bo (e_callB c_lenX m_len (by decide +kernel) (ab_cons (b_var 6) ab_nil))))))))
    (ss_cons (s_if (t_cmp (o_eq hr.r) (EOk.bo (e_op o_mod (b_var 2) (EOk.bo e_int))) (EOk.bo e_int)) (ss_one (s_ret (e_join (EOk.bo e_str) (EOk.bo (e_op o_addA (EOk.bo (e_slice (b_var 3) p_none (p_some (b_var 5)))) (EOk.bo (e_slice (b_var 3) (p_some (EOk.bo (e_op o_addA (b_var 5) (EOk.bo e_int)))) p_none))))))) ss_nil)
    (ss_cons (s_if (t_cmp (o_eq hr.r) (EOk.bo (e_op o_mod (b_var 2) (EOk.bo e_int))) (EOk.bo e_int)) (ss_one (s_ret (e_join (EOk.bo e_str) (EOk.bo (e_op o_addA (EOk.bo (e_op o_addA (EOk.bo (e_slice (b_var 3) p_none (p_some (b_var 5)))) (EOk.bo (e_lst (a_cons (e_var 7) a_nil))))) (EOk.bo (e_slice (b_var 3) (p_some (b_var 5)) p_none))))))) ss_nil)
    (ss_cons (s_if (t_cmp o_lt (EOk.bo (e_op o_mod (b_var 2) (EOk.bo e_int))) (EOk.bo e_int)) (ss_one (s_ret (e_join (EOk.bo e_str) (EOk.bo (e_op o_addA (EOk.bo (e_op o_addA (EOk.bo (e_slice (b_var 3) p_none (p_some (b_var 5)))) (EOk.bo (e_lst (a_cons (e_var 7) a_nil))))) (EOk.bo (e_slice (b_var 3) (p_some (EOk.bo (e_op o_addA (b_var 5) (EOk.bo e_int)))) p_none))))))) ss_nil)
    (ss_cons (s_set 8 (f := true) c__law_bent.nd (e_op o_mod (b_var 4) (EOk.bo (e_op o_addA (EOk.bo (e_callB c_lenX m_len (by decide +kernel) (ab_cons (b_var 1) ab_nil))) (EOk.bo e_int)))))
    (ss_cons (s_set 9 (f := true) c__law_bent.nd (e_ixF (hu_of hr.r) e_str (EOk.bo (e_op o_mod (EOk.bo (e_op o_fdiv (b_var 4) (EOk.bo e_int))) (EOk.bo e_int)))))
    (ss_one (s_ret (e_op o_addA (EOk.bo (e_op o_addA (EOk.bo (e_slice (b_var 1) p_none (p_some (b_var 8)))) (b_var 9))) (EOk.bo (e_slice (b_var 1) (p_some (EOk.bo (e_op o_addA (b_var 8) (EOk.bo (e_callTy c_int m_int (by decide +kernel) (ab_cons (EOk.bo (e_cmp (o_eq hr.r) (EOk.bo (e_op o_mod (b_var 2) (EOk.bo e_int))) (EOk.bo e_int))) ab_nil)))))) p_none))))))))))))))))))) fun _ _ _ _ _ _ us hl => match us, hl with | [_, _, _], _ => rfl
abbrev N_is_time : List Str := ["thing"]
theorem c_is_time : FnScope N_is_time ["thing"] (defScope s_is_time) := ⟨rfl, rfl, rfl, by decide +kernel, rfl, by decide +kernel, by decide +kernel⟩
theorem o_is_time {P : Program} {w : World} {K : PySem.W.Frag} {mg : Str → Option Value} {base : Heap} {f : Addr} {fd : FuncData} (F : Fun K "is_time" "is_time" s_is_time f fd) (g : mg "is_time" = some (.ref f)) (d_is_whole : DefOk P w K mg base "is_whole" 1 ["thing"] f_is_whole) (m_LAST : ∃ t, mg "LAST" = some (.int 359999 t)) :
    DefOk P w K mg base "is_time" 2 ["thing"] f_is_time := DefOk.mk' F g (fn_ok F c_is_time List.nodup_nil (by
  rintro X W cdv A outer s H E rfl hr tk hp
  exact (ss_one (s_ret (e_and (e_fn d_is_whole hr tk (a_cons (e_var 0) a_nil)) (e_one (e_chain o_le o_le (EOk.bo e_int) (b_var 0) (EOk.bo (e_globI m_LAST))))))))) fun _ _ _ _ _ _ us hl => match us, hl with | [_], _ => rfl
abbrev N_time_read : List Str := ["text", "parts", "hours", "minutes", "seconds", "part"]
theorem c_time_read : FnScope N_time_read ["text"] (defScope s_time_read) := ⟨rfl, rfl, rfl, by decide +kernel, rfl, by decide +kernel, by decide +kernel⟩
theorem o_time_read {P : Program} {w : World} {K : PySem.W.Frag} {mg : Str → Option Value} {base : Heap} {f : Addr} {fd : FuncData} (F : Fun K "time_read" "time_read" s_time_read f fd) (g : mg "time_read" = some (.ref f)) (d_are_figures : DefOk P w K mg base "are_figures" 1 ["text", "least", "most"] f_are_figures) (xc_BadTime : XcOk K mg "BadTime") (m_HOUR : ∃ t, mg "HOUR" = some (.int 3600 t)) (m_MINUTE : ∃ t, mg "MINUTE" = some (.int 60 t)) (m_int : mg "int" = none) (m_isinstance : mg "isinstance" = none) (m_len : mg "len" = none) (m_str : mg "str" = none) :
    DefOk P w K mg base "time_read" 2 ["text"] f_time_read := DefOk.mk' F g (fn_ok F c_time_read List.nodup_nil (by
  rintro X W cdv A outer s H E rfl hr tk hp
  exact (ss_cons (s_set 1 (f := true) c_time_read.nd (e_if (t_val (e_isTy "str" m_isinstance m_str (by decide +kernel) (b_var 0))) (e_split (b_var 0) (EOk.bo e_str)) (e_lst a_nil)))
    (ss_cons (s_if (WOk.t (w_or (t_cmp (o_ne hr.r) (EOk.bo (e_callB c_lenX m_len (by decide +kernel) (ab_cons (b_var 1) ab_nil))) (EOk.bo e_int)) (w_or1 (t_not (t_val (e_fn d_are_figures hr tk (a_cons (BOk.eo (b_sub (hu_of hr.r) (b_var 1) (EOk.bo e_int))) (a_cons e_int (a_cons e_int a_nil))))))))) (ss_one (s_raise xc_BadTime rfl tk)) ss_nil)
    (ss_cons (s_if (WOk.t (w_or (t_not (t_val (e_fn d_are_figures hr tk (a_cons (BOk.eo (b_sub (hu_of hr.r) (b_var 1) (EOk.bo e_int))) (a_cons e_int (a_cons e_int a_nil)))))) (w_or1 (t_not (t_val (e_fn d_are_figures hr tk (a_cons (BOk.eo (b_sub (hu_of hr.r) (b_var 1) (EOk.bo e_int))) (a_cons e_int (a_cons e_int a_nil))))))))) (ss_one (s_raise xc_BadTime rfl tk)) ss_nil)
    (ss_cons (s_asg (f := true) (e_lc rfl c_time_read.nd (bor := true) (own := [("part", 5)]) (i_any (bor := true) (e_var 1)) (blkOk_by (own := [("part", 5)]) (N := N_time_read) (sc := defScope s_time_read) (by decide +kernel)) (by decide) (fun _ _ _ _ _ => (g_nm 5 c_time_read.nd)) (fun _ _ _ _ _ => ts_nil) (fun _ _ _ _ _ => (e_callTy c_int m_int (by decide +kernel) (ab_cons (b_var 5) ab_nil)))) (g_tup rfl (gs_cons (g_nm 2 c_time_read.nd) (gs_cons (g_nm 3 c_time_read.nd) (gs_cons (g_nm 4 c_time_read.nd) gs_nil)))))
    (ss_cons (s_if (WOk.t (w_or (t_cmp (o_ne hr.r) (EOk.bo (e_callTy c_str m_str (by decide +kernel) (ab_cons (b_var 2) ab_nil))) (b_sub (hu_of hr.r) (b_var 1) (EOk.bo e_int))) (w_or (t_cmp o_ge (b_var 3) (EOk.bo (e_globI m_MINUTE))) (w_or1 (t_cmp o_ge (b_var 4) (EOk.bo (e_globI m_MINUTE))))))) (ss_one (s_raise xc_BadTime rfl tk)) ss_nil)
    (ss_one (s_ret (e_op o_add (EOk.bo (e_op o_add (EOk.bo (e_op o_mul (EOk.bo (e_globI m_HOUR)) (b_var 2))) (EOk.bo (e_op o_mul (EOk.bo (e_globI m_MINUTE)) (b_var 3))))) (b_var 4))))))))))) fun _ _ _ _ _ _ us hl => match us, hl with | [_], _ => rfl
abbrev N_Meeting_race : List Str := ["self", "name"]
theorem c_Meeting_race : FnScope N_Meeting_race ["self", "name"] (defScope s_Meeting_race) := ⟨rfl, rfl, rfl, by decide +kernel, rfl, by decide +kernel, by decide +kernel⟩
theorem o_Meeting_race {P : Program} {w : World} {K : PySem.W.Frag} {mg : Str → Option Value} {base : Heap} {f : Addr} {fd : FuncData} (F : Fun K "race" "Meeting.race" s_Meeting_race f fd) (d_is_in : DefOk P w K mg base "is_in" 1 ["thing", "some"] f_is_in) (fl_runs : FldOk K mg "runs" cs_runs) (xc_NoName : XcOk K mg "NoName") :
    FnG P w K mg base 2 f fd ["self", "name"] (spF ⟨K, mg⟩ 2 [] f_Meeting_race) := (fn_ok F c_Meeting_race List.nodup_nil (by
  rintro X W cdv A outer s H E rfl hr tk hp
  exact (ss_cons (s_if (t_not (t_val (e_fn d_is_in hr tk (a_cons (e_var 1) (a_cons (BOk.eo (b_fld fl_runs (b_var 0))) a_nil))))) (ss_one (s_raise xc_NoName rfl tk)) ss_nil)
    (ss_one (s_ret (BOk.eo (b_sub (hu_of hr.r) (b_fld fl_runs (b_var 0)) (b_var 1))))))))
abbrev N_Meeting_sails_of : List Str := ["self", "fleet", "sail", "kind", "own"]
theorem c_Meeting_sails_of : FnScope N_Meeting_sails_of ["self", "fleet"] (defScope s_Meeting_sails_of) := ⟨rfl, rfl, rfl, by decide +kernel, rfl, by decide +kernel, by decide +kernel⟩
theorem o_Meeting_sails_of {P : Program} {w : World} {K : PySem.W.Frag} {mg : Str → Option Value} {base : Heap} {f : Addr} {fd : FuncData} (F : Fun K "sails_of" "Meeting.sails_of" s_Meeting_sails_of f fd) (d_is_in : DefOk P w K mg base "is_in" 1 ["thing", "some"] f_is_in) (t_fleets : TabOk P w K mg base "fleets" 1 ["self"] tab_fleets) (xc_NoName : XcOk K mg "NoName") (fl_crews : FldOk K mg "crews" cs_crews) (m_ALL : ∃ t, mg "ALL" = some (.str "all" t)) :
    FnG P w K mg base 2 f fd ["self", "fleet"] (spF ⟨K, mg⟩ 2 [] f_Meeting_sails_of) := (fn_ok F c_Meeting_sails_of List.nodup_nil (by
  rintro X W cdv A outer s H E rfl hr tk hp
  exact (ss_cons (s_if (t_not (t_val (e_fn d_is_in hr tk (a_cons (e_var 1) (a_cons (e_op o_add (EOk.bo (e_lst (a_cons (e_globS m_ALL) a_nil))) (EOk.bo (e_meth0 t_fleets hr tk (e_var 0)))) a_nil))))) (ss_one (s_raise xc_NoName rfl tk)) ss_nil)
    (ss_one (s_ret (e_lc rfl c_Meeting_sails_of.nd (bor := true) (own := [("sail", 2), ("kind", 3), ("own", 4)]) (i_vals (bor := true) (BOk.eo (b_fld fl_crews (b_var 0)))) (blkOk_by (own := [("sail", 2), ("kind", 3), ("own", 4)]) (N := N_Meeting_sails_of) (sc := defScope s_Meeting_sails_of) (by decide +kernel)) (by decide) (fun _ _ _ _ _ => (g_tup rfl (gs_cons (g_nm 2 c_Meeting_sails_of.nd) (gs_cons (g_nm 3 c_Meeting_sails_of.nd) (gs_cons (g_nm 4 c_Meeting_sails_of.nd) gs_nil))))) (fun _ _ _ _ _ => (ts_one (t_cmp (o_in hr.r) (b_var 1) (EOk.bo (e_tup (a_cons (e_globS m_ALL) (a_cons (e_var 4) a_nil))))))) (fun _ _ _ _ _ => (e_var 2))))))))
abbrev N_number_in : List Str := ["word"]
theorem c_number_in : FnScope N_number_in ["word"] (defScope s_number_in) := ⟨rfl, rfl, rfl, by decide +kernel, rfl, by decide +kernel, by decide +kernel⟩
theorem o_number_in {P : Program} {w : World} {K : PySem.W.Frag} {mg : Str → Option Value} {base : Heap} {f : Addr} {fd : FuncData} (F : Fun K "number_in" "number_in" s_number_in f fd) (g : mg "number_in" = some (.ref f)) (d_are_figures : DefOk P w K mg base "are_figures" 1 ["text", "least", "most"] f_are_figures) (m_MOST_FIGURES : ∃ t, mg "MOST_FIGURES" = some (.int 4 t)) (m_int : mg "int" = none) :
    DefOk P w K mg base "number_in" 2 ["word"] f_number_in := DefOk.mk' F g (fn_ok F c_number_in List.nodup_nil (by
  rintro X W cdv A outer s H E rfl hr tk hp
  exact (ss_cons (s_if (WOk.t (w_or (t_not (t_val (e_fn d_are_figures hr tk (a_cons (e_var 0) (a_cons e_int (a_cons (e_globI m_MOST_FIGURES) a_nil)))))) (w_or1 (WOk.t (w_and (t_cmp (o_eq hr.r) (b_sub (hu_of hr.r) (b_var 0) (EOk.bo e_int)) (EOk.bo e_str)) (w_and1 (t_cmp (o_ne hr.r) (b_var 0) (EOk.bo e_str)))))))) (ss_one (s_ret e_non)) ss_nil)
    (ss_one (s_ret (e_callTy c_int m_int (by decide +kernel) (ab_cons (b_var 0) ab_nil))))))) fun _ _ _ _ _ _ us hl => match us, hl with | [_], _ => rfl
abbrev N_is_among : List Str := ["thing", "least", "most"]
theorem c_is_among : FnScope N_is_among ["thing", "least", "most"] (defScope s_is_among) := ⟨rfl, rfl, rfl, by decide +kernel, rfl, by decide +kernel, by decide +kernel⟩
theorem o_is_among {P : Program} {w : World} {K : PySem.W.Frag} {mg : Str → Option Value} {base : Heap} {f : Addr} {fd : FuncData} (F : Fun K "is_among" "is_among" s_is_among f fd) (g : mg "is_among" = some (.ref f)) (d_is_whole : DefOk P w K mg base "is_whole" 1 ["thing"] f_is_whole) :
    DefOk P w K mg base "is_among" 2 ["thing", "least", "most"] f_is_among := DefOk.mk' F g (fn_ok F c_is_among List.nodup_nil (by
  rintro X W cdv A outer s H E rfl hr tk hp
  exact (ss_one (s_ret (e_and (e_fn d_is_whole hr tk (a_cons (e_var 0) a_nil)) (e_one (e_chain o_le o_le (b_var 1) (b_var 0) (b_var 2)))))))) fun _ _ _ _ _ _ us hl => match us, hl with | [_, _, _], _ => rfl
abbrev N__law_names : List Str := ["_law_cell", "_law_many", "_law_signs", "_law_row", "_law_at", "_law_long", "_law_step", "_law_found", "_law_k", "_law_sign", "_law_j", "_law_name"]
theorem c__law_names : FnScope N__law_names ["_law_cell", "_law_many"] (defScope s__law_names) := ⟨rfl, rfl, rfl, by decide +kernel, rfl, by decide +kernel, by decide +kernel⟩
theorem o__law_names {P : Program} {w : World} {K : PySem.W.Frag} {mg : Str → Option Value} {base : Heap} {f : Addr} {fd : FuncData} (F : Fun K "_law_names" "_law_names" s__law_names f fd) (g : mg "_law_names" = some (.ref f)) (d__law_mixed : DefOk P w K mg base "_law_mixed" 1 ["_law_cell", "_law_k"] f__law_mixed) (m_range : mg "range" = none) :
    DefOk P w K mg base "_law_names" 2 ["_law_cell", "_law_many"] f__law_names := DefOk.mk' F g (fn_ok F c__law_names List.nodup_nil (by
  rintro X W cdv A outer s H E rfl hr tk hp
  exact (ss_cons (s_set 2 (f := true) c__law_names.nd e_str)
    (ss_cons (s_setLc 3 (f := true) (bor := true) (own := [("_law_j", 10)]) rfl c__law_names.nd (i_rng1 (bor := true) m_range (ab_cons (EOk.bo e_int) ab_nil)) (blkOk_by (own := [("_law_j", 10)]) (N := N__law_names) (sc := defScope s__law_names) (by decide +kernel)) (by decide) (fun _ _ _ _ _ => (g_nm 10 c__law_names.nd)) (fun _ _ _ _ _ => ts_nil) (fun _ _ _ _ _ => (BOk.eo (b_sub (hu_of hr.r) (b_var 2) (EOk.bo (e_op o_mod (EOk.bo (e_fn d__law_mixed hr.blk takes0 (a_cons (e_var 0) (a_cons (e_var 10) a_nil)))) (EOk.bo e_int)))))))
    (ss_cons (s_set 4 (f := true) c__law_names.nd (e_op o_mod (EOk.bo (e_fn d__law_mixed hr tk (a_cons (e_var 0) (a_cons e_int a_nil)))) (EOk.bo e_int)))
    (ss_cons (s_set 5 (f := true) c__law_names.nd (e_op o_add (EOk.bo (e_op o_add (b_var 4) (EOk.bo e_int))) (EOk.bo (e_op o_mod (EOk.bo (e_fn d__law_mixed hr tk (a_cons (e_var 0) (a_cons e_int a_nil)))) (EOk.bo (e_op o_sub (EOk.bo e_int) (b_var 4)))))))
    (ss_cons (s_set 6 (f := true) c__law_names.nd (e_ixF (hu_of hr.r) (e_lst (a_cons e_int (a_cons e_int (a_cons e_int (a_cons e_int (a_cons e_int (a_cons e_int a_nil))))))) (EOk.bo (e_op o_mod (EOk.bo (e_fn d__law_mixed hr tk (a_cons (e_var 0) (a_cons e_int a_nil)))) (EOk.bo e_int)))))
    (ss_cons (s_set 7 (f := false) c__law_names.nd (e_lst a_nil))
    (ss_cons (s_for hp rfl (i_rng1 (bor := false) m_range (ab_cons (EOk.bo (e_op o_add (b_var 1) (EOk.bo e_int))) ab_nil)) (g_nm 8 c__law_names.nd)
    (ss_cons (s_set 9 (f := true) c__law_names.nd (BOk.eo (b_sub (hu_of hr.r) (b_var 2) (EOk.bo (e_op o_mod (EOk.bo (e_op o_add (EOk.bo (e_fn d__law_mixed hr tk (a_cons (e_var 0) (a_cons e_int a_nil)))) (EOk.bo (e_op o_mul (b_var 6) (b_var 8))))) (EOk.bo e_int))))))
    (ss_one (s_mut PySem.F.slot_list_append PySem.F.type_list_append m_append (pl_var 7) (a_cons (e_join (EOk.bo e_str) (EOk.bo (e_op o_add (EOk.bo (e_op o_add (EOk.bo (e_slice (b_var 3) p_none (p_some (b_var 4)))) (EOk.bo (e_lst (a_cons (e_var 9) a_nil))))) (EOk.bo (e_slice (b_var 3) (p_some (EOk.bo (e_op o_add (b_var 4) (EOk.bo e_int)))) (p_some (b_var 5))))))) a_nil)))))
    (ss_one (s_ret (e_slice (EOk.bo (e_lc rfl c__law_names.nd (bor := true) (own := [("_law_name", 11)]) (i_seqB (b_var 7)) (blkOk_by (own := [("_law_name", 11)]) (N := N__law_names) (sc := defScope s__law_names) (by decide +kernel)) (by decide) (fun _ _ _ _ _ => (g_nm 11 c__law_names.nd)) (fun _ _ _ _ _ => (ts_one (t_cmp (o_ne hr.r) (b_var 11) (EOk.bo e_str)))) (fun _ _ _ _ _ => (e_var 11)))) p_none (p_some (b_var 1)))))))))))))) fun _ _ _ _ _ _ us hl => match us, hl with | [_, _], _ => rfl
abbrev N__law_handicap : List Str := ["_law_cell", "_law_number", "_law_word"]
theorem c__law_handicap : FnScope N__law_handicap ["_law_cell"] (defScope s__law_handicap) := ⟨rfl, rfl, rfl, by decide +kernel, rfl, by decide +kernel, by decide +kernel⟩
theorem o__law_handicap {P : Program} {w : World} {K : PySem.W.Frag} {mg : Str → Option Value} {base : Heap} {f : Addr} {fd : FuncData} (F : Fun K "_law_handicap" "_law_handicap" s__law_handicap f fd) (g : mg "_law_handicap" = some (.ref f)) (d__law_mixed : DefOk P w K mg base "_law_mixed" 1 ["_law_cell", "_law_k"] f__law_mixed) :
    DefOk P w K mg base "_law_handicap" 2 ["_law_cell"] f__law_handicap := DefOk.mk' F g (fn_ok F c__law_handicap List.nodup_nil (by
  rintro X W cdv A outer s H E rfl hr tk hp
  exact (ss_cons (s_set 1 (f := true) c__law_handicap.nd (e_ixF (hu_of hr.r) (e_lst (a_cons e_int (a_cons (e_op o_add (EOk.bo e_int) (EOk.bo (e_op o_mod (EOk.bo (e_fn d__law_mixed hr tk (a_cons (e_var 0) (a_cons e_int a_nil)))) (EOk.bo e_int)))) (a_cons (e_op o_add (EOk.bo e_int) (EOk.bo (e_op o_mod (EOk.bo (e_fn d__law_mixed hr tk (a_cons (e_var 0) (a_cons e_int a_nil)))) (EOk.bo e_int)))) a_nil)))) (EOk.bo (e_op o_mod (EOk.bo (e_fn d__law_mixed hr tk (a_cons (e_var 0) (a_cons e_int a_nil)))) (EOk.bo e_int)))))
    (ss_cons (s_set 2 (f := true) c__law_handicap.nd (e_ixF (hu_of hr.r) (e_lst (a_cons e_str (a_cons e_str (a_cons e_str (a_cons e_str a_nil))))) (EOk.bo (e_op o_mod (EOk.bo (e_fn d__law_mixed hr tk (a_cons (e_var 0) (a_cons e_int a_nil)))) (EOk.bo e_int)))))
    (ss_one (s_ret (e_if (t_cmp (o_eq hr.r) (b_var 2) (EOk.bo e_str)) (e_tup (a_cons (e_var 2) a_nil)) (e_tup (a_cons (e_var 2) (a_cons (e_var 1) a_nil)))))))))) fun _ _ _ _ _ _ us hl => match us, hl with | [_], _ => rfl
abbrev N__law_paper : List Str := ["_law_cell", "_law_plain", "_law_number", "_law_races", "_law_way", "_law_race", "_law_entered_here", "_law_sail", "_law_far", "_law_time", "_law_some"]
theorem c__law_paper : FnScope N__law_paper ["_law_cell", "_law_plain", "_law_number"] (defScope s__law_paper) := ⟨rfl, rfl, rfl, by decide +kernel, rfl, by decide +kernel, by decide +kernel⟩
theorem o__law_paper {P : Program} {w : World} {K : PySem.W.Frag} {mg : Str → Option Value} {base : Heap} {f : Addr} {fd : FuncData} (F : Fun K "_law_paper" "_law_paper" s__law_paper f fd) (g : mg "_law_paper" = some (.ref f)) (d__law_mixed : DefOk P w K mg base "_law_mixed" 1 ["_law_cell", "_law_k"] f__law_mixed) (d__law_entered : DefOk P w K mg base "_law_entered" 1 ["_law_plain", "_law_race"] f__law_entered) (m_len : mg "len" = none) (m_max : mg "max" = none) (m_min : mg "min" = none) :
    DefOk P w K mg base "_law_paper" 2 ["_law_cell", "_law_plain", "_law_number"] f__law_paper := DefOk.mk' F g (fn_ok F c__law_paper List.nodup_nil (by
  rintro X W cdv A outer s H E rfl hr tk hp
  exact (ss_cons (s_set 3 (f := true) c__law_paper.nd (BOk.eo (b_sub (hu_of hr.r) (b_var 1) (EOk.bo e_int))))
    (ss_cons (s_set 4 (f := true) c__law_paper.nd (e_op o_mod (EOk.bo (e_fn d__law_mixed hr tk (a_cons (e_var 0) (a_cons e_int a_nil)))) (EOk.bo e_int)))
    (ss_cons (s_if (WOk.t (w_or (t_cmp (o_eq hr.r) (b_var 4) (EOk.bo e_int)) (w_or1 (t_cmp (o_eq hr.r) (b_var 3) (EOk.bo (e_tup a_nil)))))) (ss_one (s_ret (e_tup (a_cons (e_var 2) (a_cons e_str (a_cons (e_op o_add (EOk.bo e_int) (EOk.bo (e_op o_mod (EOk.bo (e_fn d__law_mixed hr tk (a_cons (e_var 0) (a_cons e_int a_nil)))) (EOk.bo (e_callB (c_max2 rfl) m_max (by decide +kernel) (ab_cons (EOk.bo e_int) (ab_cons (EOk.bo (e_op o_sub (b_var 2) (EOk.bo e_int))) ab_nil))))))) a_nil)))))) ss_nil)
    (ss_cons (s_set 5 (f := true) c__law_paper.nd (BOk.eo (b_sub (hu_of hr.r) (b_var 3) (EOk.bo (e_op o_mod (EOk.bo (e_fn d__law_mixed hr tk (a_cons (e_var 0) (a_cons e_int a_nil)))) (EOk.bo (e_callB c_lenX m_len (by decide +kernel) (ab_cons (b_var 3) ab_nil))))))))
    (ss_cons (s_if (WOk.t (w_and (t_cmp (o_eq hr.r) (b_var 4) (EOk.bo e_int)) (w_and1 (t_cmp (o_eq hr.r) (EOk.bo (e_op o_mod (EOk.bo (e_fn d__law_mixed hr tk (a_cons (e_var 0) (a_cons e_int a_nil)))) (EOk.bo e_int))) (EOk.bo e_int))))) (ss_one (s_ret (e_tup (a_cons (e_var 2) (a_cons e_str (a_cons (BOk.eo (b_sub (hu_of hr.r) (b_var 5) (EOk.bo e_int))) a_nil)))))) ss_nil)
    (ss_cons (s_set 6 (f := true) c__law_paper.nd (e_fn d__law_entered hr tk (a_cons (e_var 1) (a_cons (e_var 5) a_nil))))
    (ss_cons (s_set 7 (f := true) c__law_paper.nd (BOk.eo (b_sub (hu_of hr.r) (b_var 6) (EOk.bo (e_op o_mod (EOk.bo (e_fn d__law_mixed hr tk (a_cons (e_var 0) (a_cons e_int a_nil)))) (EOk.bo (e_callB c_lenX m_len (by decide +kernel) (ab_cons (b_var 6) ab_nil))))))))
    (ss_cons (s_if (t_cmp (o_eq hr.r) (b_var 4) (EOk.bo e_int)) (ss_one (s_ret (e_tup (a_cons (e_var 2) (a_cons e_str (a_cons (BOk.eo (b_sub (hu_of hr.r) (b_var 5) (EOk.bo e_int))) (a_cons (e_var 7) (a_cons (e_op o_add (EOk.bo e_int) (EOk.bo (e_op o_mod (EOk.bo (e_fn d__law_mixed hr tk (a_cons (e_var 0) (a_cons e_int a_nil)))) (EOk.bo e_int)))) a_nil)))))))) ss_nil)
    (ss_cons (s_if (t_cmp (o_eq hr.r) (b_var 4) (EOk.bo e_int)) (ss_one (s_ret (e_tup (a_cons (e_var 2) (a_cons e_str (a_cons (BOk.eo (b_sub (hu_of hr.r) (b_var 5) (EOk.bo e_int))) (a_cons (e_var 7) (a_cons (e_ixF (hu_of hr.r) (e_lst (a_cons e_str (a_cons e_str a_nil))) (EOk.bo (e_op o_mod (EOk.bo (e_fn d__law_mixed hr tk (a_cons (e_var 0) (a_cons e_int a_nil)))) (EOk.bo e_int)))) a_nil)))))))) ss_nil)
    (ss_cons (s_if (t_cmp o_lt (b_var 4) (EOk.bo e_int)) (ss_cons (s_set 10 (f := true) c__law_paper.nd (e_lst (a_cons e_str (a_cons e_str (a_cons e_str (a_cons e_str (a_cons e_str (a_cons e_str (a_cons e_str a_nil)))))))))
    (ss_one (s_ret (e_tup (a_cons (e_var 2) (a_cons e_str (a_cons (BOk.eo (b_sub (hu_of hr.r) (b_var 5) (EOk.bo e_int))) (a_cons (e_var 7) (a_cons (BOk.eo (b_sub (hu_of hr.r) (b_var 10) (EOk.bo (e_op o_mod (EOk.bo (e_fn d__law_mixed hr tk (a_cons (e_var 0) (a_cons e_int a_nil)))) (EOk.bo e_int))))) a_nil))))))))) ss_nil)
    (ss_cons (s_set 8 (f := true) c__law_paper.nd (e_op o_mod (EOk.bo (e_op o_mul (EOk.bo (e_fn d__law_mixed hr tk (a_cons (e_var 0) (a_cons e_int a_nil)))) (EOk.bo e_int))) (EOk.bo (e_op o_sub (EOk.bo e_int) (b_sub (hu_of hr.r) (b_var 5) (EOk.bo e_int))))))
    (ss_cons (s_set 9 (f := true) c__law_paper.nd (e_op o_add (b_sub (hu_of hr.r) (b_var 5) (EOk.bo e_int)) (b_sub (hu_of hr.r) (EOk.bo (e_lst (a_cons (e_var 8) (a_cons (e_callB (c_min2 rfl) m_min (by decide +kernel) (ab_cons (b_var 8) (ab_cons (EOk.bo (e_op o_mod (EOk.bo (e_fn d__law_mixed hr tk (a_cons (e_var 0) (a_cons e_int a_nil)))) (EOk.bo e_int))) ab_nil))) (a_cons (e_callB (c_min2 rfl) m_min (by decide +kernel) (ab_cons (EOk.bo (e_op o_sub (EOk.bo e_int) (b_sub (hu_of hr.r) (b_var 5) (EOk.bo e_int)))) (ab_cons (EOk.bo e_int) ab_nil))) a_nil))))) (EOk.bo (e_op o_mod (EOk.bo (e_fn d__law_mixed hr tk (a_cons (e_var 0) (a_cons e_int a_nil)))) (EOk.bo e_int))))))
    (ss_one (s_ret (e_tup (a_cons (e_var 2) (a_cons e_str (a_cons (BOk.eo (b_sub (hu_of hr.r) (b_var 5) (EOk.bo e_int))) (a_cons (e_var 7) (a_cons (e_var 9) a_nil)))))))))))))))))))))) fun _ _ _ _ _ _ us hl => match us, hl with | [_, _, _], _ => rfl
abbrev N__law_text : List Str := ["_law_paper_here", "_law_words", "_law_one"]
theorem c__law_text : FnScope N__law_text ["_law_paper_here"] (defScope s__law_text) := ⟨rfl, rfl, rfl, by decide +kernel, rfl, by decide +kernel, by decide +kernel⟩
theorem o__law_text {P : Program} {w : World} {K : PySem.W.Frag} {mg : Str → Option Value} {base : Heap} {f : Addr} {fd : FuncData} (F : Fun K "_law_text" "_law_text" s__law_text f fd) (g : mg "_law_text" = some (.ref f)) (d__law_time_text : DefOk P w K mg base "_law_time_text" 1 ["_law_time"] f__law_time_text) (m_str : mg "str" = none) :
    DefOk P w K mg base "_law_text" 2 ["_law_paper_here"] f__law_text := DefOk.mk' F g (fn_ok F c__law_text List.nodup_nil (by
  rintro X W cdv A outer s H E rfl hr tk hp
  exact (ss_cons (s_setLc 1 (f := false) (bor := true) (own := [("_law_one", 2)]) rfl c__law_text.nd (i_any (bor := true) (e_var 0)) (blkOk_by (own := [("_law_one", 2)]) (N := N__law_text) (sc := defScope s__law_text) (by decide +kernel)) (by decide) (fun _ _ _ _ _ => (g_nm 2 c__law_text.nd)) (fun _ _ _ _ _ => ts_nil) (fun _ _ _ _ _ => (e_callTy c_str m_str (by decide +kernel) (ab_cons (b_var 2) ab_nil))))
    (ss_cons (s_if (t_cmp (o_eq hr.r) (b_sub (hu_of hr.r) (b_var 0) (EOk.bo e_int)) (EOk.bo e_str)) (ss_one (s_setL (pl_var 1) (EOk.bo e_int) (e_fn d__law_time_text hr tk (a_cons (BOk.eo (b_sub (hu_of hr.r) (b_var 0) (EOk.bo e_int))) a_nil)))) ss_nil)
    (ss_one (s_ret (e_join (EOk.bo e_str) (b_var 1)))))))) fun _ _ _ _ _ _ us hl => match us, hl with | [_], _ => rfl
abbrev N__law_seconds : List Str := ["_law_word", "_law_parts", "_law_hours", "_law_sign", "_law_part"]
theorem c__law_seconds : FnScope N__law_seconds ["_law_word"] (defScope s__law_seconds) := ⟨rfl, rfl, rfl, by decide +kernel, rfl, by decide +kernel, by decide +kernel⟩
theorem o__law_seconds {P : Program} {w : World} {K : PySem.W.Frag} {mg : Str → Option Value} {base : Heap} {f : Addr} {fd : FuncData} (F : Fun K "_law_seconds" "_law_seconds" s__law_seconds f fd) (g : mg "_law_seconds" = some (.ref f)) (d__law_whole : DefOk P w K mg base "_law_whole" 1 ["_law_word"] f__law_whole) (m_int : mg "int" = none) (m_len : mg "len" = none) (m_max : mg "max" = none) :
    DefOk P w K mg base "_law_seconds" 2 ["_law_word"] f__law_seconds := DefOk.mk' F g (fn_ok F c__law_seconds List.nodup_nil (by
  rintro X W cdv A outer s H E rfl hr tk hp
  exact (ss_cons (s_set 1 (f := true) c__law_seconds.nd (e_split (b_var 0) (EOk.bo e_str)))
    (ss_cons (s_if (WOk.t (w_or (t_cmp (o_ne hr.r) (EOk.bo (e_callB c_lenX m_len (by decide +kernel) (ab_cons (b_var 1) ab_nil))) (EOk.bo e_int)) (w_or1 (t_cmp (o_ne hr.r) (EOk.bo (e_lc rfl c__law_seconds.nd (bor := true) (own := [("_law_sign", 3)]) (i_any (bor := true) (e_join (EOk.bo e_str) (b_var 1))) (blkOk_by (own := [("_law_sign", 3)]) (N := N__law_seconds) (sc := defScope s__law_seconds) (by decide +kernel)) (by decide) (fun _ _ _ _ _ => (g_nm 3 c__law_seconds.nd)) (fun _ _ _ _ _ => (ts_one (t_cmp (o_notin hr.r) (b_var 3) (EOk.bo e_str)))) (fun _ _ _ _ _ => (e_var 3)))) (EOk.bo (e_lst a_nil)))))) (ss_one (s_ret (e_neg (EOk.bo e_int)))) ss_nil)
    (ss_cons (s_if (WOk.t (w_or (t_cmp (o_ne hr.r) (EOk.bo (e_lc rfl c__law_seconds.nd (bor := true) (own := [("_law_part", 4)]) (i_any (bor := true) (e_slice (b_var 1) (p_some (EOk.bo e_int)) p_none)) (blkOk_by (own := [("_law_part", 4)]) (N := N__law_seconds) (sc := defScope s__law_seconds) (by decide +kernel)) (by decide) (fun _ _ _ _ _ => (g_nm 4 c__law_seconds.nd)) (fun _ _ _ _ _ => ts_nil) (fun _ _ _ _ _ => (e_callB c_lenX m_len (by decide +kernel) (ab_cons (b_var 4) ab_nil))))) (EOk.bo (e_lst (a_cons e_int (a_cons e_int a_nil))))) (w_or1 (t_cmp o_gtT (EOk.bo (e_callB (c_maxT rfl) m_max (by decide +kernel) (ab_cons (EOk.bo (e_slice (b_var 1) (p_some (EOk.bo e_int)) p_none)) ab_nil))) (EOk.bo e_str))))) (ss_one (s_ret (e_neg (EOk.bo e_int)))) ss_nil)
    (ss_cons (s_set 2 (f := true) c__law_seconds.nd (e_fn d__law_whole hr tk (a_cons (BOk.eo (b_sub (hu_of hr.r) (b_var 1) (EOk.bo e_int))) a_nil)))
    (ss_one (s_ret (e_if (t_not (t_chain o_le o_lt (EOk.bo e_int) (b_var 2) (EOk.bo e_int))) (e_neg (EOk.bo e_int)) (e_op o_add (EOk.bo (e_op o_add (EOk.bo (e_op o_mul (b_var 2) (EOk.bo e_int))) (EOk.bo (e_op o_mul (EOk.bo (e_callTy c_int m_int (by decide +kernel) (ab_cons (b_sub (hu_of hr.r) (b_var 1) (EOk.bo e_int)) ab_nil))) (EOk.bo e_int))))) (EOk.bo (e_callTy c_int m_int (by decide +kernel) (ab_cons (b_sub (hu_of hr.r) (b_var 1) (EOk.bo e_int)) ab_nil))))))))))))) fun _ _ _ _ _ _ us hl => match us, hl with | [_], _ => rfl
abbrev N_need_time : List Str := ["thing"]
theorem c_need_time : FnScope N_need_time ["thing"] (defScope s_need_time) := ⟨rfl, rfl, rfl, by decide +kernel, rfl, by decide +kernel, by decide +kernel⟩
theorem o_need_time {P : Program} {w : World} {K : PySem.W.Frag} {mg : Str → Option Value} {base : Heap} {f : Addr} {fd : FuncData} (F : Fun K "need_time" "need_time" s_need_time f fd) (g : mg "need_time" = some (.ref f)) (d_is_time : DefOk P w K mg base "is_time" 2 ["thing"] f_is_time) (xc_BadTime : XcOk K mg "BadTime") :
    DefOk P w K mg base "need_time" 3 ["thing"] f_need_time := DefOk.mk' F g (fn_ok F c_need_time List.nodup_nil (by
  rintro X W cdv A outer s H E rfl hr tk hp
  exact (ss_one (s_if (t_not (t_val (e_fn d_is_time hr tk (a_cons (e_var 0) a_nil)))) (ss_one (s_raise xc_BadTime rfl tk)) ss_nil)))) fun _ _ _ _ _ _ us hl => match us, hl with | [_], _ => rfl
abbrev N_handicap_of : List Str := ["plain", "word"]
theorem c_handicap_of : FnScope N_handicap_of ["plain"] (defScope s_handicap_of) := ⟨rfl, rfl, rfl, by decide +kernel, rfl, by decide +kernel, by decide +kernel⟩
theorem o_handicap_of {P : Program} {w : World} {K : PySem.W.Frag} {mg : Str → Option Value} {base : Heap} {f : Addr} {fd : FuncData} (F : Fun K "handicap_of" "handicap_of" s_handicap_of f fd) (g : mg "handicap_of" = some (.ref f)) (k_FactorHandicap : MkOk P w K mg base "FactorHandicap" 1 ["self", "bearing"] f_Handicap___init__) (k_YardHandicap : MkOk P w K mg base "YardHandicap" 1 ["self", "bearing"] f_Handicap___init__) (k_MileHandicap : MkOk P w K mg base "MileHandicap" 1 ["self", "bearing"] f_Handicap___init__) (k_LevelHandicap : MkOk P w K mg base "LevelHandicap" 1 ["self", "bearing"] f_Handicap___init__) :
    DefOk P w K mg base "handicap_of" 3 ["plain"] f_handicap_of := DefOk.mk' F g (fn_ok F c_handicap_of List.nodup_nil (by
  rintro X W cdv A outer s H E rfl hr tk hp
  exact (ss_cons (s_set 1 (f := true) c_handicap_of.nd (BOk.eo (b_sub (hu_of hr.r) (b_var 0) (EOk.bo e_int))))
    (ss_cons (s_if (t_cmp (o_eq hr.r) (b_var 1) (EOk.bo e_str)) (ss_one (s_ret (e_make k_FactorHandicap hr tk (a_cons (BOk.eo (b_sub (hu_of hr.r) (b_var 0) (EOk.bo e_int))) a_nil)))) ss_nil)
    (ss_cons (s_if (t_cmp (o_eq hr.r) (b_var 1) (EOk.bo e_str)) (ss_one (s_ret (e_make k_YardHandicap hr tk (a_cons (BOk.eo (b_sub (hu_of hr.r) (b_var 0) (EOk.bo e_int))) a_nil)))) ss_nil)
    (ss_cons (s_if (t_cmp (o_eq hr.r) (b_var 1) (EOk.bo e_str)) (ss_one (s_ret (e_make k_MileHandicap hr tk (a_cons (BOk.eo (b_sub (hu_of hr.r) (b_var 0) (EOk.bo e_int))) a_nil)))) ss_nil)
    (ss_one (s_ret (e_make k_LevelHandicap hr tk (a_cons e_int a_nil)))))))))) fun _ _ _ _ _ _ us hl => match us, hl with | [_], _ => rfl
abbrev N_Meeting_entered : List Str := ["self", "race"]
theorem c_Meeting_entered : FnScope N_Meeting_entered ["self", "race"] (defScope s_Meeting_entered) := ⟨rfl, rfl, rfl, by decide +kernel, rfl, by decide +kernel, by decide +kernel⟩
theorem o_Meeting_entered {P : Program} {w : World} {K : PySem.W.Frag} {mg : Str → Option Value} {base : Heap} {f : Addr} {fd : FuncData} (F : Fun K "entered" "Meeting.entered" s_Meeting_entered f fd) (t_sails_of : TabOk P w K mg base "sails_of" 2 ["self", "fleet"] tab_sails_of) (t_race : TabOk P w K mg base "race" 2 ["self", "name"] tab_race) :
    FnG P w K mg base 3 f fd ["self", "race"] (spF ⟨K, mg⟩ 2 [] f_Meeting_entered) := (fn_ok F c_Meeting_entered List.nodup_nil (by
  rintro X W cdv A outer s H E rfl hr tk hp
  exact (ss_one (s_ret (e_meth t_sails_of hr tk (e_var 0) (a_cons (e_ixF (hu_of hr.r) (e_meth t_race hr tk (e_var 0) (a_cons (e_var 1) a_nil)) (EOk.bo e_int)) a_nil))))))
abbrev N_time_in : List Str := ["word", "found"]
theorem c_time_in : FnScope N_time_in ["word"] (defScope s_time_in) := ⟨rfl, rfl, rfl, by decide +kernel, rfl, by decide +kernel, by decide +kernel⟩
theorem o_time_in {P : Program} {w : World} {K : PySem.W.Frag} {mg : Str → Option Value} {base : Heap} {f : Addr} {fd : FuncData} (F : Fun K "time_in" "time_in" s_time_in f fd) (g : mg "time_in" = some (.ref f)) (d_time_read : DefOk P w K mg base "time_read" 2 ["text"] f_time_read) (s_sub_BadTime : SubOk K mg "BadTime" sub_BadTime) :
    DefOk P w K mg base "time_in" 3 ["word"] f_time_in := DefOk.mk' F g (fn_ok F c_time_in List.nodup_nil (by
  rintro X W cdv A outer s H E rfl hr tk hp
  exact (ss_cons (s_set 1 (f := true) c_time_in.nd e_non)
    (ss_cons (s_tryH rfl rfl tk (fun _ _ _ tk hp => (ss_one (s_set 1 (f := true) c_time_in.nd (e_fn d_time_read hr.tr tk (a_cons (e_var 0) a_nil))))) (.cons s_sub_BadTime (fun _ _ => (ss_one (s_set 1 (f := true) c_time_in.nd e_non))) .nil))
    (ss_one (s_ret (e_var 1))))))) fun _ _ _ _ _ _ us hl => match us, hl with | [_], _ => rfl
abbrev N_is_told : List Str := ["meeting", "word", "race", "thing"]
theorem c_is_told : FnScope N_is_told ["meeting", "word", "race", "thing"] (defScope s_is_told) := ⟨rfl, rfl, rfl, by decide +kernel, rfl, by decide +kernel, by decide +kernel⟩
theorem o_is_told {P : Program} {w : World} {K : PySem.W.Frag} {mg : Str → Option Value} {base : Heap} {f : Addr} {fd : FuncData} (F : Fun K "is_told" "is_told" s_is_told f fd) (g : mg "is_told" = some (.ref f)) (d_is_time : DefOk P w K mg base "is_time" 2 ["thing"] f_is_time) (d_is_in : DefOk P w K mg base "is_in" 1 ["thing", "some"] f_is_in) (d_is_among : DefOk P w K mg base "is_among" 2 ["thing", "least", "most"] f_is_among) (t_race : TabOk P w K mg base "race" 2 ["self", "name"] tab_race) (gd_TOLD : GDct K w mg "TOLD" kd_TOLD) (m_COST : ∃ t, mg "COST" = some (.str "cost" t)) (m_FINISH : ∃ t, mg "FINISH" = some (.str "finish" t)) (m_MOST_PLACES : ∃ t, mg "MOST_PLACES" = some (.int 20 t)) :
    DefOk P w K mg base "is_told" 3 ["meeting", "word", "race", "thing"] f_is_told := DefOk.mk' F g (fn_ok F c_is_told List.nodup_nil (by
  rintro X W cdv A outer s H E rfl hr tk hp
  exact (ss_cons (s_if (t_cmp (o_eq hr.r) (b_var 1) (EOk.bo (e_globS m_FINISH))) (ss_one (s_ret (e_and (e_fn d_is_time hr tk (a_cons (e_var 3) a_nil)) (e_one (e_cmp o_le (b_sub (hu_of hr.r) (EOk.bo (e_meth t_race hr tk (e_var 0) (a_cons (e_var 2) a_nil))) (EOk.bo e_int)) (b_var 3)))))) ss_nil)
    (ss_cons (s_if (t_cmp (o_eq hr.r) (b_var 1) (EOk.bo (e_globS m_COST))) (ss_one (s_ret (e_fn d_is_among hr tk (a_cons (e_var 3) (a_cons e_int (a_cons (e_globI m_MOST_PLACES) a_nil)))))) ss_nil)
    (ss_one (s_ret (e_fn d_is_in hr tk (a_cons (e_var 3) (a_cons (e_kdIx gd_TOLD (b_var 1)) a_nil))))))))) fun _ _ _ _ _ _ us hl => match us, hl with | [_, _, _, _], _ => rfl
abbrev N__law_meeting : List Str := ["_law_script", "_law_boats", "_law_races", "_law_names_here", "_law_classes", "_law_k", "_law_sails", "_law_fleets", "_law_found", "_law_many", "_law_drops", "_law_told_here", "_law_rows", "_law_called", "_law_mixed_here", "_law_opening", "_law_boat"]
theorem c__law_meeting : FnScope N__law_meeting ["_law_script", "_law_boats", "_law_races"] (defScope s__law_meeting) := ⟨rfl, rfl, rfl, by decide +kernel, rfl, by decide +kernel, by decide +kernel⟩
theorem o__law_meeting {P : Program} {w : World} {K : PySem.W.Frag} {mg : Str → Option Value} {base : Heap} {f : Addr} {fd : FuncData} (F : Fun K "_law_meeting" "_law_meeting" s__law_meeting f fd) (g : mg "_law_meeting" = some (.ref f)) (d__law_cell_at : DefOk P w K mg base "_law_cell_at" 1 ["_law_script", "_law_k"] f__law_cell_at) (d__law_mixed : DefOk P w K mg base "_law_mixed" 1 ["_law_cell", "_law_k"] f__law_mixed) (d__law_names : DefOk P w K mg base "_law_names" 2 ["_law_cell", "_law_many"] f__law_names) (d__law_handicap : DefOk P w K mg base "_law_handicap" 2 ["_law_cell"] f__law_handicap) (m_len : mg "len" = none) (m_range : mg "range" = none) (m_set : mg "set" = none) (m_sorted : mg "sorted" = none) (m_tuple : mg "tuple" = none) :
    DefOk P w K mg base "_law_meeting" 3 ["_law_script", "_law_boats", "_law_races"] f__law_meeting := DefOk.mk' F g (fn_ok F c__law_meeting List.nodup_nil (by
  rintro X W cdv A outer s H E rfl hr tk hp
  exact (ss_cons (s_set 3 (f := true) c__law_meeting.nd (e_fn d__law_names hr tk (a_cons (e_fn d__law_mixed hr tk (a_cons (e_fn d__law_cell_at hr tk (a_cons (e_var 0) (a_cons e_int a_nil))) (a_cons e_int a_nil))) (a_cons e_int a_nil))))
    (ss_cons (s_set 4 (f := false) c__law_meeting.nd (e_lst a_nil))
    (ss_cons (s_for hp rfl (i_rng1 (bor := false) m_range (ab_cons (EOk.bo (e_op o_add (EOk.bo e_int) (EOk.bo (e_op o_mod (EOk.bo (e_fn d__law_cell_at hr tk (a_cons (e_var 0) (a_cons e_int a_nil)))) (EOk.bo e_int))))) ab_nil)) (g_nm 5 c__law_meeting.nd)
    (ss_one (s_mut PySem.F.slot_list_append PySem.F.type_list_append m_append (pl_var 4) (a_cons (e_tup (a_cons (BOk.eo (b_sub (hu_of hr.r) (b_var 3) (b_var 5))) (a_cons (e_fn d__law_handicap hr tk (a_cons (e_fn d__law_mixed hr tk (a_cons (e_fn d__law_cell_at hr tk (a_cons (e_var 0) (a_cons e_int a_nil))) (a_cons (e_op o_add (EOk.bo e_int) (b_var 5)) a_nil))) a_nil)) a_nil))) a_nil))))
    (ss_cons (s_set 6 (f := true) c__law_meeting.nd (e_fn d__law_names hr tk (a_cons (e_fn d__law_mixed hr tk (a_cons (e_fn d__law_cell_at hr tk (a_cons (e_var 0) (a_cons e_int a_nil))) (a_cons e_int a_nil))) (a_cons e_int a_nil))))
    (ss_cons (s_set 7 (f := true) c__law_meeting.nd (e_slice (EOk.bo (e_fn d__law_names hr tk (a_cons (e_fn d__law_mixed hr tk (a_cons (e_fn d__law_cell_at hr tk (a_cons (e_var 0) (a_cons e_int a_nil))) (a_cons e_int a_nil))) (a_cons e_int a_nil)))) p_none (p_some (EOk.bo (e_op o_add (EOk.bo e_int) (EOk.bo (e_op o_mod (EOk.bo (e_fn d__law_cell_at hr tk (a_cons (e_var 0) (a_cons e_int a_nil)))) (EOk.bo e_int))))))))
    (ss_cons (s_set 8 (f := false) c__law_meeting.nd (e_lst a_nil))
    (ss_cons (s_for hp rfl (i_rng1 (bor := false) m_range (ab_cons (EOk.bo (e_op o_add (EOk.bo e_int) (EOk.bo (e_op o_mod (EOk.bo (e_fn d__law_mixed hr tk (a_cons (e_fn d__law_cell_at hr tk (a_cons (e_var 0) (a_cons e_int a_nil))) (a_cons e_int a_nil)))) (b_var 1))))) ab_nil)) (g_nm 5 c__law_meeting.nd)
    (ss_cons (s_set 14 (f := true) c__law_meeting.nd (e_fn d__law_mixed hr tk (a_cons (e_fn d__law_cell_at hr tk (a_cons (e_var 0) (a_cons e_int a_nil))) (a_cons (e_op o_add (EOk.bo e_int) (b_var 5)) a_nil))))
    (ss_one (s_mut PySem.F.slot_list_append PySem.F.type_list_append m_append (pl_var 8) (a_cons (e_tup (a_cons (BOk.eo (b_sub (hu_of hr.r) (b_var 6) (b_var 5))) (a_cons (BOk.eo (b_sub (hu_of hr.r) (b_sub (hu_of hr.r) (b_var 4) (EOk.bo (e_op o_mod (b_var 14) (EOk.bo (e_callB c_lenX m_len (by decide +kernel) (ab_cons (b_var 4) ab_nil)))))) (EOk.bo e_int))) (a_cons (BOk.eo (b_sub (hu_of hr.r) (b_var 7) (EOk.bo (e_op o_mod (EOk.bo (e_op o_fdiv (b_var 14) (EOk.bo e_int))) (EOk.bo (e_callB c_lenX m_len (by decide +kernel) (ab_cons (b_var 7) ab_nil))))))) a_nil)))) a_nil)))))
    (ss_cons (s_set 9 (f := true) c__law_meeting.nd (e_op o_mod (EOk.bo (e_op o_fdiv (EOk.bo (e_fn d__law_cell_at hr tk (a_cons (e_var 0) (a_cons e_int a_nil)))) (EOk.bo e_int))) (EOk.bo e_int)))
    (ss_cons (s_setLc 10 (f := true) (bor := true) (own := [("_law_k", 5)]) rfl c__law_meeting.nd (i_rng1 (bor := true) m_range (ab_cons (b_var 9) ab_nil)) (blkOk_by (own := [("_law_k", 5)]) (N := N__law_meeting) (sc := defScope s__law_meeting) (by decide +kernel)) (by decide) (fun _ _ _ _ _ => (g_nm 5 c__law_meeting.nd)) (fun _ _ _ _ _ => ts_nil) (fun _ _ _ _ _ => (e_op o_add (EOk.bo e_int) (EOk.bo (e_op o_mod (EOk.bo (e_fn d__law_mixed hr.blk takes0 (a_cons (e_fn d__law_cell_at hr.blk takes0 (a_cons (e_var 0) (a_cons e_int a_nil))) (a_cons (e_op o_add (EOk.bo e_int) (b_var 5)) a_nil)))) (b_sub (hu_of hr.r) (EOk.bo (e_lst (a_cons e_int (a_cons e_int (a_cons e_int a_nil))))) (EOk.bo (e_op o_mod (b_var 5) (EOk.bo e_int)))))))))
    (ss_cons (s_set 11 (f := true) c__law_meeting.nd (e_op o_add (EOk.bo (e_lc rfl c__law_meeting.nd (bor := true) (own := [("_law_boat", 16)]) (i_seqB (b_var 8)) (blkOk_by (own := [("_law_boat", 16)]) (N := N__law_meeting) (sc := defScope s__law_meeting) (by decide +kernel)) (by decide) (fun _ _ _ _ _ => (g_nm 16 c__law_meeting.nd)) (fun _ _ _ _ _ => ts_nil) (fun _ _ _ _ _ => (BOk.eo (b_sub (hu_of hr.r) (b_var 16) (EOk.bo e_int)))))) (EOk.bo (e_lst (a_cons e_str a_nil)))))
    (ss_cons (s_set 12 (f := false) c__law_meeting.nd (e_lst a_nil))
    (ss_cons (s_set 13 (f := true) c__law_meeting.nd (e_fn d__law_names hr tk (a_cons (e_fn d__law_mixed hr tk (a_cons (e_fn d__law_cell_at hr tk (a_cons (e_var 0) (a_cons e_int a_nil))) (a_cons e_int a_nil))) (a_cons e_int a_nil))))
    (ss_cons (s_for hp rfl (i_rng1 (bor := false) m_range (ab_cons (EOk.bo (e_op o_mod (EOk.bo (e_fn d__law_mixed hr tk (a_cons (e_fn d__law_cell_at hr tk (a_cons (e_var 0) (a_cons e_int a_nil))) (a_cons e_int a_nil)))) (EOk.bo (e_op o_add (b_var 2) (EOk.bo e_int))))) ab_nil)) (g_nm 5 c__law_meeting.nd)
    (ss_cons (s_set 14 (f := true) c__law_meeting.nd (e_fn d__law_mixed hr tk (a_cons (e_fn d__law_cell_at hr tk (a_cons (e_var 0) (a_cons e_int a_nil))) (a_cons (e_op o_add (EOk.bo e_int) (b_var 5)) a_nil))))
    (ss_cons (s_set 15 (f := true) c__law_meeting.nd (e_ixF (hu_of hr.r) (e_lst (a_cons e_int (a_cons (e_op o_mod (b_var 14) (EOk.bo e_int)) (a_cons (e_op o_mod (b_var 14) (EOk.bo e_int)) a_nil)))) (EOk.bo (e_op o_mod (b_var 14) (EOk.bo e_int)))))
    (ss_one (s_mut PySem.F.slot_list_append PySem.F.type_list_append m_append (pl_var 12) (a_cons (e_tup (a_cons (BOk.eo (b_sub (hu_of hr.r) (b_var 13) (b_var 5))) (a_cons (BOk.eo (b_sub (hu_of hr.r) (b_var 11) (EOk.bo (e_op o_mod (EOk.bo (e_op o_fdiv (b_var 14) (EOk.bo e_int))) (EOk.bo (e_callB c_lenX m_len (by decide +kernel) (ab_cons (b_var 11) ab_nil))))))) (a_cons (e_var 15) (a_cons (e_op o_mod (EOk.bo (e_op o_fdiv (b_var 14) (EOk.bo e_int))) (b_sub (hu_of hr.r) (EOk.bo (e_lst (a_cons e_int (a_cons e_int (a_cons e_int a_nil))))) (EOk.bo (e_op o_mod (b_var 14) (EOk.bo e_int))))) a_nil))))) a_nil))))))
    (ss_one (s_ret (e_tup (a_cons (e_callTy c_tux m_tuple (by decide +kernel) (ab_cons (b_var 4) ab_nil)) (a_cons (e_callTy c_tuple m_tuple (by decide +kernel) (ab_cons (b_var 8) ab_nil)) (a_cons (e_callTy c_tuple m_tuple (by decide +kernel) (ab_cons (EOk.bo (e_sortSet rfl m_sorted m_set (b_var 10))) ab_nil)) (a_cons (e_callTy c_tuple m_tuple (by decide +kernel) (ab_cons (b_var 12) ab_nil)) a_nil)))))))))))))))))))))) fun _ _ _ _ _ _ us hl => match us, hl with | [_, _, _], _ => rfl
abbrev N__law_read : List Str := ["_law_plain", "_law_text_here", "_law_words", "_law_races", "_law_number", "_law_told_here", "_law_good", "_law_race", "_law_codes"]
theorem c__law_read : FnScope N__law_read ["_law_plain", "_law_text_here"] (defScope s__law_read) := ⟨rfl, rfl, rfl, by decide +kernel, rfl, by decide +kernel, by decide +kernel⟩
theorem o__law_read {P : Program} {w : World} {K : PySem.W.Frag} {mg : Str → Option Value} {base : Heap} {f : Addr} {fd : FuncData} (F : Fun K "_law_read" "_law_read" s__law_read f fd) (g : mg "_law_read" = some (.ref f)) (d__law_entered : DefOk P w K mg base "_law_entered" 1 ["_law_plain", "_law_race"] f__law_entered) (d__law_whole : DefOk P w K mg base "_law_whole" 1 ["_law_word"] f__law_whole) (d__law_seconds : DefOk P w K mg base "_law_seconds" 2 ["_law_word"] f__law_seconds) (m_dict : mg "dict" = none) (m_len : mg "len" = none) :
    DefOk P w K mg base "_law_read" 3 ["_law_plain", "_law_text_here"] f__law_read := DefOk.mk' F g (fn_ok F c__law_read List.nodup_nil (by
  rintro X W cdv A outer s H E rfl hr tk hp
  exact (ss_cons (s_set 2 (f := true) c__law_read.nd (e_split (b_var 1) (EOk.bo e_str)))
    (ss_cons (s_set 3 (f := true) c__law_read.nd (e_dict rfl m_dict (e_lc rfl c__law_read.nd (bor := true) (own := [("_law_race", 7)]) (i_any (bor := true) (BOk.eo (b_sub (hu_of hr.r) (b_var 0) (EOk.bo e_int)))) (blkOk_by (own := [("_law_race", 7)]) (N := N__law_read) (sc := defScope s__law_read) (by decide +kernel)) (by decide) (fun _ _ _ _ _ => (g_nm 7 c__law_read.nd)) (fun _ _ _ _ _ => ts_nil) (fun _ _ _ _ _ => (e_tup (a_cons (BOk.eo (b_sub (hu_of hr.r) (b_var 7) (EOk.bo e_int))) (a_cons (e_var 7) a_nil)))))))
    (ss_cons (s_set 4 (f := true) c__law_read.nd (e_fn d__law_whole hr tk (a_cons (BOk.eo (b_sub (hu_of hr.r) (b_var 2) (EOk.bo e_int))) a_nil)))
    (ss_cons (s_if (WOk.t (w_or (t_cmp o_lt (b_var 4) (EOk.bo e_int)) (w_or1 (t_cmp (o_notin hr.r) (EOk.bo (e_callB c_lenX m_len (by decide +kernel) (ab_cons (b_var 2) ab_nil))) (EOk.bo (e_tup (a_cons e_int (a_cons e_int a_nil)))))))) (ss_one (s_ret e_non)) ss_nil)
    (ss_cons (s_if (WOk.t (w_and (t_cmp (o_eq hr.r) (EOk.bo (e_callB c_lenX m_len (by decide +kernel) (ab_cons (b_var 2) ab_nil))) (EOk.bo e_int)) (w_and1 (t_cmp (o_eq hr.r) (b_sub (hu_of hr.r) (b_var 2) (EOk.bo e_int)) (EOk.bo e_str))))) (ss_one (s_ret (e_if (t_chain o_lt o_lt (EOk.bo e_int) (EOk.bo (e_fn d__law_whole hr tk (a_cons (BOk.eo (b_sub (hu_of hr.r) (b_var 2) (EOk.bo e_int))) a_nil))) (b_var 4)) (e_tup (a_cons (e_var 4) (a_cons e_str (a_cons (e_fn d__law_whole hr tk (a_cons (BOk.eo (b_sub (hu_of hr.r) (b_var 2) (EOk.bo e_int))) a_nil)) a_nil)))) e_non))) ss_nil)
    (ss_cons (s_if (t_cmp (o_notin hr.r) (b_sub (hu_of hr.r) (b_var 2) (EOk.bo e_int)) (b_var 3)) (ss_one (s_ret e_non)) ss_nil)
    (ss_cons (s_if (t_cmp (o_eq hr.r) (EOk.bo (e_callB c_lenX m_len (by decide +kernel) (ab_cons (b_var 2) ab_nil))) (EOk.bo e_int)) (ss_one (s_ret (e_if (t_cmp (o_eq hr.r) (b_sub (hu_of hr.r) (b_var 2) (EOk.bo e_int)) (EOk.bo e_str)) (e_tup (a_cons (e_var 4) (a_cons e_str (a_cons (BOk.eo (b_sub (hu_of hr.r) (b_var 2) (EOk.bo e_int))) a_nil)))) e_non))) ss_nil)
    (ss_cons (s_if (t_cmp (o_notin hr.r) (b_sub (hu_of hr.r) (b_var 2) (EOk.bo e_int)) (EOk.bo (e_fn d__law_entered hr tk (a_cons (e_var 0) (a_cons (BOk.eo (b_sub (hu_of hr.r) (b_var 3) (b_sub (hu_of hr.r) (b_var 2) (EOk.bo e_int)))) a_nil))))) (ss_one (s_ret e_non)) ss_nil)
    (ss_cons (s_set 5 (f := true) c__law_read.nd (BOk.eo (b_sub (hu_of hr.r) (b_var 2) (EOk.bo e_int))))
    (ss_cons (s_if (t_cmp (o_eq hr.r) (b_sub (hu_of hr.r) (b_var 2) (EOk.bo e_int)) (EOk.bo e_str)) (ss_cons (s_set 5 (f := true) c__law_read.nd (e_fn d__law_seconds hr tk (a_cons (BOk.eo (b_sub (hu_of hr.r) (b_var 2) (EOk.bo e_int))) a_nil)))
    (ss_one (s_set 6 (f := true) c__law_read.nd (e_cmp o_ge (b_var 5) (b_sub (hu_of hr.r) (b_sub (hu_of hr.r) (b_var 3) (b_sub (hu_of hr.r) (b_var 2) (EOk.bo e_int))) (EOk.bo e_int)))))) (ss_one (s_if (t_cmp (o_eq hr.r) (b_sub (hu_of hr.r) (b_var 2) (EOk.bo e_int)) (EOk.bo e_str)) (ss_cons (s_set 5 (f := true) c__law_read.nd (e_fn d__law_whole hr tk (a_cons (BOk.eo (b_sub (hu_of hr.r) (b_var 2) (EOk.bo e_int))) a_nil)))
    (ss_one (s_set 6 (f := true) c__law_read.nd (e_chain o_lt o_lt (EOk.bo e_int) (b_var 5) (EOk.bo e_int))))) (ss_one (s_if (t_cmp (o_eq hr.r) (b_sub (hu_of hr.r) (b_var 2) (EOk.bo e_int)) (EOk.bo e_str)) (ss_one (s_set 6 (f := true) c__law_read.nd (e_cmp (o_in hr.r) (b_var 5) (EOk.bo (e_tup (a_cons e_str (a_cons e_str a_nil))))))) (ss_cons (s_set 8 (f := true) c__law_read.nd (e_tup (a_cons e_str (a_cons e_str (a_cons e_str (a_cons e_str (a_cons e_str (a_cons e_str (a_cons e_str a_nil)))))))))
    (ss_one (s_set 6 (f := true) c__law_read.nd (e_and (e_cmp (o_eq hr.r) (b_sub (hu_of hr.r) (b_var 2) (EOk.bo e_int)) (EOk.bo e_str)) (e_one (e_cmp (o_in hr.r) (b_var 5) (b_var 8))))))))))))
    (ss_one (s_ret (e_if (t_val (e_var 6)) (e_tup (a_cons (e_var 4) (a_cons (BOk.eo (b_sub (hu_of hr.r) (b_var 2) (EOk.bo e_int))) (a_cons (BOk.eo (b_sub (hu_of hr.r) (b_var 2) (EOk.bo e_int))) (a_cons (BOk.eo (b_sub (hu_of hr.r) (b_var 2) (EOk.bo e_int))) (a_cons (e_var 5) a_nil)))))) e_non))))))))))))))) fun _ _ _ _ _ _ us hl => match us, hl with | [_, _], _ => rfl
abbrev N_time_text : List Str := ["time", "hours", "rest", "minutes", "seconds"]
theorem c_time_text : FnScope N_time_text ["time"] (defScope s_time_text) := ⟨rfl, rfl, rfl, by decide +kernel, rfl, by decide +kernel, by decide +kernel⟩
theorem o_time_text {P : Program} {w : World} {K : PySem.W.Frag} {mg : Str → Option Value} {base : Heap} {f : Addr} {fd : FuncData} (F : Fun K "time_text" "time_text" s_time_text f fd) (g : mg "time_text" = some (.ref f)) (d_need_time : DefOk P w K mg base "need_time" 3 ["thing"] f_need_time) (m_HOUR : ∃ t, mg "HOUR" = some (.int 3600 t)) (m_MINUTE : ∃ t, mg "MINUTE" = some (.int 60 t)) (m_divmod : mg "divmod" = none) (m_str : mg "str" = none) :
    DefOk P w K mg base "time_text" 4 ["time"] f_time_text := DefOk.mk' F g (fn_ok F c_time_text List.nodup_nil (by
  rintro X W cdv A outer s H E rfl hr tk hp
  exact (ss_cons (s_expr (e_fn d_need_time hr tk (a_cons (e_var 0) a_nil)))
    (ss_cons (s_asg (f := true) (e_callB c_divmod m_divmod (by decide +kernel) (ab_cons (b_var 0) (ab_cons (EOk.bo (e_globI m_HOUR)) ab_nil))) (g_tup rfl (gs_cons (g_nm 1 c_time_text.nd) (gs_cons (g_nm 2 c_time_text.nd) gs_nil))))
    (ss_cons (s_asg (f := true) (e_callB c_divmod m_divmod (by decide +kernel) (ab_cons (b_var 2) (ab_cons (EOk.bo (e_globI m_MINUTE)) ab_nil))) (g_tup rfl (gs_cons (g_nm 3 c_time_text.nd) (gs_cons (g_nm 4 c_time_text.nd) gs_nil))))
    (ss_one (s_ret (e_op o_add (EOk.bo (e_op o_add (EOk.bo (e_op o_add (EOk.bo (e_op o_add (EOk.bo (e_callTy c_str m_str (by decide +kernel) (ab_cons (b_var 1) ab_nil))) (EOk.bo e_str))) (EOk.bo (e_zfill (EOk.bo (e_callTy c_str m_str (by decide +kernel) (ab_cons (b_var 3) ab_nil))) (EOk.bo e_int))))) (EOk.bo e_str))) (EOk.bo (e_zfill (EOk.bo (e_callTy c_str m_str (by decide +kernel) (ab_cons (b_var 4) ab_nil))) (EOk.bo e_int))))))))))) fun _ _ _ _ _ _ us hl => match us, hl with | [_], _ => rfl
abbrev N_Meeting___init__ : List Str := ["self", "plain", "classes", "boats", "drops", "races", "boat", "race", "name", "told"]
theorem c_Meeting___init__ : FnScope N_Meeting___init__ ["self", "plain"] (defScope s_Meeting___init__) := ⟨rfl, rfl, rfl, by decide +kernel, rfl, by decide +kernel, by decide +kernel⟩
theorem o_Meeting___init__ {P : Program} {w : World} {K : PySem.W.Frag} {mg : Str → Option Value} {base : Heap} {f : Addr} {fd : FuncData} (F : Fun K "__init__" "Meeting.__init__" s_Meeting___init__ f fd) (d_handicap_of : DefOk P w K mg base "handicap_of" 3 ["plain"] f_handicap_of) (fl_kinds : FldOk K mg "kinds" cs_kinds) (fl_crews : FldOk K mg "crews" cs_crews) (fl_limits : FldOk K mg "limits" cs_limits) (fl_runs : FldOk K mg "runs" cs_runs) (m_dict : mg "dict" = none) (m_tuple : mg "tuple" = none) :
    FnG P w K mg base 4 f fd ["self", "plain"] (spF ⟨K, mg⟩ 2 [0] f_Meeting___init__) := (fn_ok F c_Meeting___init__ (by decide) (by
  rintro X W cdv A outer s H E rfl hr tk hp
  exact (ss_cons (s_asg (f := true) (e_var 1) (g_tup rfl (gs_cons (g_nm 2 c_Meeting___init__.nd) (gs_cons (g_nm 3 c_Meeting___init__.nd) (gs_cons (g_nm 4 c_Meeting___init__.nd) (gs_cons (g_nm 5 c_Meeting___init__.nd) gs_nil))))))
    (ss_cons (s_setF true fl_kinds (pl_var 0) (e_dict rfl m_dict (e_lc rfl c_Meeting___init__.nd (bor := true) (own := [("name", 8), ("told", 9)]) (i_any (bor := true) (e_tp1 (e_var 2))) (blkOk_by (own := [("name", 8), ("told", 9)]) (N := N_Meeting___init__) (sc := defScope s_Meeting___init__) (by decide +kernel)) (by decide) (fun _ _ _ _ _ => (g_tup rfl (gs_cons (g_nm 8 c_Meeting___init__.nd) (gs_cons (g_nm 9 c_Meeting___init__.nd) gs_nil)))) (fun _ _ _ _ _ => ts_nil) (fun _ _ _ _ _ => (e_tup (a_cons (e_var 8) (a_cons (e_fn d_handicap_of hr.blk takes0 (a_cons (e_var 9) a_nil)) a_nil)))))))
    (ss_cons (s_setF true fl_crews (pl_var 0) (e_dict rfl m_dict (e_lc rfl c_Meeting___init__.nd (bor := true) (own := [("boat", 6)]) (i_any (bor := true) (e_var 3)) (blkOk_by (own := [("boat", 6)]) (N := N_Meeting___init__) (sc := defScope s_Meeting___init__) (by decide +kernel)) (by decide) (fun _ _ _ _ _ => (g_nm 6 c_Meeting___init__.nd)) (fun _ _ _ _ _ => ts_nil) (fun _ _ _ _ _ => (e_tup (a_cons (BOk.eo (b_sub (hu_of hr.r) (b_var 6) (EOk.bo e_int))) (a_cons (e_var 6) a_nil)))))))
    (ss_cons (s_setF true fl_limits (pl_var 0) (e_callTy c_tuple m_tuple (by decide +kernel) (ab_cons (b_var 4) ab_nil)))
    (ss_one (s_setF true fl_runs (pl_var 0) (e_dict rfl m_dict (e_lc rfl c_Meeting___init__.nd (bor := true) (own := [("race", 7)]) (i_any (bor := true) (e_var 5)) (blkOk_by (own := [("race", 7)]) (N := N_Meeting___init__) (sc := defScope s_Meeting___init__) (by decide +kernel)) (by decide) (fun _ _ _ _ _ => (g_nm 7 c_Meeting___init__.nd)) (fun _ _ _ _ _ => ts_nil) (fun _ _ _ _ _ => (e_tup (a_cons (BOk.eo (b_sub (hu_of hr.r) (b_var 7) (EOk.bo e_int))) (a_cons (e_var 7) a_nil))))))))))))))
abbrev N_is_paper : List Str := ["meeting", "thing"]
theorem c_is_paper : FnScope N_is_paper ["meeting", "thing"] (defScope s_is_paper) := ⟨rfl, rfl, rfl, by decide +kernel, rfl, by decide +kernel, by decide +kernel⟩
theorem o_is_paper {P : Program} {w : World} {K : PySem.W.Frag} {mg : Str → Option Value} {base : Heap} {f : Addr} {fd : FuncData} (F : Fun K "is_paper" "is_paper" s_is_paper f fd) (g : mg "is_paper" = some (.ref f)) (d_is_in : DefOk P w K mg base "is_in" 1 ["thing", "some"] f_is_in) (d_is_among : DefOk P w K mg base "is_among" 2 ["thing", "least", "most"] f_is_among) (d_is_told : DefOk P w K mg base "is_told" 3 ["meeting", "word", "race", "thing"] f_is_told) (gt_OF_BOATS : GTup K mg "OF_BOATS" [.str "finish", .str "code", .str "cost", .str "help"]) (t_races : TabOk P w K mg base "races" 1 ["self"] tab_races) (t_entered : TabOk P w K mg base "entered" 3 ["self", "race"] tab_entered) (m_MOST_NUMBER : ∃ t, mg "MOST_NUMBER" = some (.int 9999 t)) (m_OFF : ∃ t, mg "OFF" = some (.str "off" t)) (m_VOID : ∃ t, mg "VOID" = some (.str "void" t)) (m_isinstance : mg "isinstance" = none) (m_len : mg "len" = none) (m_tuple : mg "tuple" = none) :
    DefOk P w K mg base "is_paper" 4 ["meeting", "thing"] f_is_paper := DefOk.mk' F g (fn_ok F c_is_paper List.nodup_nil (by
  rintro X W cdv A outer s H E rfl hr tk hp
  exact (ss_cons (s_if (WOk.t (w_or (t_not (t_val (e_isTy "tuple" m_isinstance m_tuple (by decide +kernel) (b_var 1)))) (w_or (t_cmp o_lt (EOk.bo (e_callB c_lenX m_len (by decide +kernel) (ab_cons (b_var 1) ab_nil))) (EOk.bo e_int)) (w_or1 (t_not (t_val (e_fn d_is_among hr tk (a_cons (BOk.eo (b_sub (hu_of hr.r) (b_var 1) (EOk.bo e_int))) (a_cons e_int (a_cons (e_globI m_MOST_NUMBER) a_nil)))))))))) (ss_one (s_ret e_bl)) ss_nil)
    (ss_cons (s_if (t_not (t_val (e_fn d_is_in hr tk (a_cons (BOk.eo (b_sub (hu_of hr.r) (b_var 1) (EOk.bo e_int))) (a_cons (e_lst (a_cons (e_globS m_OFF) (a_cons (e_globS m_VOID) a_nil))) a_nil))))) (ss_cons (s_if (WOk.t (w_or (t_cmp (o_ne hr.r) (EOk.bo (e_callB c_lenX m_len (by decide +kernel) (ab_cons (b_var 1) ab_nil))) (EOk.bo e_int)) (w_or (t_not (t_val (e_fn d_is_in hr tk (a_cons (BOk.eo (b_sub (hu_of hr.r) (b_var 1) (EOk.bo e_int))) (a_cons (e_globT gt_OF_BOATS) a_nil))))) (w_or1 (t_not (t_val (e_fn d_is_in hr tk (a_cons (BOk.eo (b_sub (hu_of hr.r) (b_var 1) (EOk.bo e_int))) (a_cons (e_meth0 t_races hr tk (e_var 0)) a_nil))))))))) (ss_one (s_ret e_bl)) ss_nil)
    (ss_one (s_ret (e_and (e_fn d_is_in hr tk (a_cons (BOk.eo (b_sub (hu_of hr.r) (b_var 1) (EOk.bo e_int))) (a_cons (e_meth t_entered hr tk (e_var 0) (a_cons (BOk.eo (b_sub (hu_of hr.r) (b_var 1) (EOk.bo e_int))) a_nil)) a_nil))) (e_one (e_fn d_is_told hr tk (a_cons (e_var 0) (a_cons (BOk.eo (b_sub (hu_of hr.r) (b_var 1) (EOk.bo e_int))) (a_cons (BOk.eo (b_sub (hu_of hr.r) (b_var 1) (EOk.bo e_int))) (a_cons (BOk.eo (b_sub (hu_of hr.r) (b_var 1) (EOk.bo e_int))) a_nil)))))))))) ss_nil)
    (ss_cons (s_if (t_cmp (o_ne hr.r) (EOk.bo (e_callB c_lenX m_len (by decide +kernel) (ab_cons (b_var 1) ab_nil))) (EOk.bo e_int)) (ss_one (s_ret e_bl)) ss_nil)
    (ss_cons (s_if (t_cmp (o_eq hr.r) (b_sub (hu_of hr.r) (b_var 1) (EOk.bo e_int)) (EOk.bo (e_globS m_VOID))) (ss_one (s_ret (e_fn d_is_among hr tk (a_cons (BOk.eo (b_sub (hu_of hr.r) (b_var 1) (EOk.bo e_int))) (a_cons e_int (a_cons (e_op o_sub (b_sub (hu_of hr.r) (b_var 1) (EOk.bo e_int)) (EOk.bo e_int)) a_nil)))))) ss_nil)
    (ss_one (s_ret (e_fn d_is_in hr tk (a_cons (BOk.eo (b_sub (hu_of hr.r) (b_var 1) (EOk.bo e_int))) (a_cons (e_meth0 t_races hr tk (e_var 0)) a_nil))))))))))) fun _ _ _ _ _ _ us hl => match us, hl with | [_, _], _ => rfl
abbrev N_need_paper : List Str := ["meeting", "thing"]
theorem c_need_paper : FnScope N_need_paper ["meeting", "thing"] (defScope s_need_paper) := ⟨rfl, rfl, rfl, by decide +kernel, rfl, by decide +kernel, by decide +kernel⟩
theorem o_need_paper {P : Program} {w : World} {K : PySem.W.Frag} {mg : Str → Option Value} {base : Heap} {f : Addr} {fd : FuncData} (F : Fun K "need_paper" "need_paper" s_need_paper f fd) (g : mg "need_paper" = some (.ref f)) (d_is_paper : DefOk P w K mg base "is_paper" 4 ["meeting", "thing"] f_is_paper) (xc_BadPaper : XcOk K mg "BadPaper") :
    DefOk P w K mg base "need_paper" 5 ["meeting", "thing"] f_need_paper := DefOk.mk' F g (fn_ok F c_need_paper List.nodup_nil (by
  rintro X W cdv A outer s H E rfl hr tk hp
  exact (ss_one (s_if (t_not (t_val (e_fn d_is_paper hr tk (a_cons (e_var 0) (a_cons (e_var 1) a_nil))))) (ss_one (s_raise xc_BadPaper rfl tk)) ss_nil)))) fun _ _ _ _ _ _ us hl => match us, hl with | [_, _], _ => rfl
abbrev N_paper_text : List Str := ["paper", "words", "one"]
theorem c_paper_text : FnScope N_paper_text ["paper"] (defScope s_paper_text) := ⟨rfl, rfl, rfl, by decide +kernel, rfl, by decide +kernel, by decide +kernel⟩
theorem o_paper_text {P : Program} {w : World} {K : PySem.W.Frag} {mg : Str → Option Value} {base : Heap} {f : Addr} {fd : FuncData} (F : Fun K "paper_text" "paper_text" s_paper_text f fd) (g : mg "paper_text" = some (.ref f)) (d_time_text : DefOk P w K mg base "time_text" 4 ["time"] f_time_text) (m_FINISH : ∃ t, mg "FINISH" = some (.str "finish" t)) (m_str : mg "str" = none) :
    DefOk P w K mg base "paper_text" 5 ["paper"] f_paper_text := DefOk.mk' F g (fn_ok F c_paper_text List.nodup_nil (by
  rintro X W cdv A outer s H E rfl hr tk hp
  exact (ss_cons (s_setLc 1 (f := false) (bor := true) (own := [("one", 2)]) rfl c_paper_text.nd (i_any (bor := true) (e_var 0)) (blkOk_by (own := [("one", 2)]) (N := N_paper_text) (sc := defScope s_paper_text) (by decide +kernel)) (by decide) (fun _ _ _ _ _ => (g_nm 2 c_paper_text.nd)) (fun _ _ _ _ _ => ts_nil) (fun _ _ _ _ _ => (e_callTy c_str m_str (by decide +kernel) (ab_cons (b_var 2) ab_nil))))
    (ss_cons (s_if (t_cmp (o_eq hr.r) (b_sub (hu_of hr.r) (b_var 0) (EOk.bo e_int)) (EOk.bo (e_globS m_FINISH))) (ss_one (s_setL (pl_var 1) (EOk.bo (e_neg (EOk.bo e_int))) (e_fn d_time_text hr tk (a_cons (BOk.eo (b_sub (hu_of hr.r) (b_var 0) (EOk.bo (e_neg (EOk.bo e_int))))) a_nil)))) ss_nil)
    (ss_one (s_ret (e_join (EOk.bo e_str) (b_var 1)))))))) fun _ _ _ _ _ _ us hl => match us, hl with | [_], _ => rfl
abbrev N_meeting_of : List Str := ["plain"]
theorem c_meeting_of : FnScope N_meeting_of ["plain"] (defScope s_meeting_of) := ⟨rfl, rfl, rfl, by decide +kernel, rfl, by decide +kernel, by decide +kernel⟩
theorem o_meeting_of {P : Program} {w : World} {K : PySem.W.Frag} {mg : Str → Option Value} {base : Heap} {f : Addr} {fd : FuncData} (F : Fun K "meeting_of" "meeting_of" s_meeting_of f fd) (g : mg "meeting_of" = some (.ref f)) (k_Meeting : MkOk P w K mg base "Meeting" 4 ["self", "plain"] f_Meeting___init__) :
    DefOk P w K mg base "meeting_of" 6 ["plain"] f_meeting_of := DefOk.mk' F g (fn_ok F c_meeting_of List.nodup_nil (by
  rintro X W cdv A outer s H E rfl hr tk hp
  exact (ss_one (s_ret (e_make k_Meeting hr tk (a_cons (e_var 0) a_nil)))))) fun _ _ _ _ _ _ us hl => match us, hl with | [_], _ => rfl
abbrev N_paper_read : List Str := ["meeting", "text", "words", "things", "found"]
theorem c_paper_read : FnScope N_paper_read ["meeting", "text"] (defScope s_paper_read) := ⟨rfl, rfl, rfl, by decide +kernel, rfl, by decide +kernel, by decide +kernel⟩
theorem o_paper_read {P : Program} {w : World} {K : PySem.W.Frag} {mg : Str → Option Value} {base : Heap} {f : Addr} {fd : FuncData} (F : Fun K "paper_read" "paper_read" s_paper_read f fd) (g : mg "paper_read" = some (.ref f)) (d_number_in : DefOk P w K mg base "number_in" 2 ["word"] f_number_in) (d_time_in : DefOk P w K mg base "time_in" 3 ["word"] f_time_in) (d_need_paper : DefOk P w K mg base "need_paper" 5 ["meeting", "thing"] f_need_paper) (xc_BadPaper : XcOk K mg "BadPaper") (m_COST : ∃ t, mg "COST" = some (.str "cost" t)) (m_FINISH : ∃ t, mg "FINISH" = some (.str "finish" t)) (m_VOID : ∃ t, mg "VOID" = some (.str "void" t)) (m_isinstance : mg "isinstance" = none) (m_len : mg "len" = none) (m_str : mg "str" = none) (m_tuple : mg "tuple" = none) :
    DefOk P w K mg base "paper_read" 6 ["meeting", "text"] f_paper_read := DefOk.mk' F g (fn_ok F c_paper_read List.nodup_nil (by
  rintro X W cdv A outer s H E rfl hr tk hp
  exact (ss_cons (s_if (t_not (t_val (e_isTy "str" m_isinstance m_str (by decide +kernel) (b_var 1)))) (ss_one (s_raise xc_BadPaper rfl tk)) ss_nil)
    (ss_cons (s_set 2 (f := true) c_paper_read.nd (e_split (b_var 1) (EOk.bo e_str)))
    (ss_cons (s_set 3 (f := false) c_paper_read.nd (e_op o_add (EOk.bo (e_lst (a_cons (e_fn d_number_in hr tk (a_cons (BOk.eo (b_sub (hu_of hr.r) (b_var 2) (EOk.bo e_int))) a_nil)) a_nil))) (EOk.bo (e_slice (b_var 2) (p_some (EOk.bo e_int)) p_none))))
    (ss_cons (s_if (WOk.t (w_and (t_cmp o_gt (EOk.bo (e_callB c_lenX m_len (by decide +kernel) (ab_cons (b_var 2) ab_nil))) (EOk.bo e_int)) (w_and1 (t_cmp (o_in hr.r) (b_sub (hu_of hr.r) (b_var 2) (EOk.bo e_int)) (EOk.bo (e_tup (a_cons (e_globS m_COST) (a_cons (e_globS m_VOID) a_nil)))))))) (ss_one (s_setL (pl_var 3) (EOk.bo (e_neg (EOk.bo e_int))) (e_fn d_number_in hr tk (a_cons (BOk.eo (b_sub (hu_of hr.r) (b_var 2) (EOk.bo (e_neg (EOk.bo e_int))))) a_nil)))) ss_nil)
    (ss_cons (s_if (WOk.t (w_and (t_cmp o_gt (EOk.bo (e_callB c_lenX m_len (by decide +kernel) (ab_cons (b_var 2) ab_nil))) (EOk.bo e_int)) (w_and1 (t_cmp (o_eq hr.r) (b_sub (hu_of hr.r) (b_var 2) (EOk.bo e_int)) (EOk.bo (e_globS m_FINISH)))))) (ss_one (s_setL (pl_var 3) (EOk.bo (e_neg (EOk.bo e_int))) (e_fn d_time_in hr tk (a_cons (BOk.eo (b_sub (hu_of hr.r) (b_var 2) (EOk.bo (e_neg (EOk.bo e_int))))) a_nil)))) ss_nil)
    (ss_cons (s_set 4 (f := true) c_paper_read.nd (e_callTy c_tuple m_tuple (by decide +kernel) (ab_cons (b_var 3) ab_nil)))
    (ss_cons (s_expr (e_fn d_need_paper hr tk (a_cons (e_var 0) (a_cons (e_var 4) a_nil))))
    (ss_one (s_ret (e_var 4)))))))))))) fun _ _ _ _ _ _ us hl => match us, hl with | [_, _], _ => rfl
abbrev N__law_told : List Str := ["_law_meeting_here", "_law_thing", "_law_fault", "_law_told_here", "_law_e"]
theorem c__law_told : FnScope N__law_told ["_law_meeting_here", "_law_thing"] (defScope s__law_told) := ⟨rfl, rfl, rfl, by decide +kernel, rfl, by decide +kernel, by decide +kernel⟩
theorem o__law_told {P : Program} {w : World} {K : PySem.W.Frag} {mg : Str → Option Value} {base : Heap} {f : Addr} {fd : FuncData} (F : Fun K "_law_told" "_law_told" s__law_told f fd) (g : mg "_law_told" = some (.ref f)) (d_paper_read : DefOk P w K mg base "paper_read" 6 ["meeting", "text"] f_paper_read) (d__law_kinds : DefOk P w K mg base "_law_kinds" 1 ["_law_e"] f__law_kinds) (s_sub_RaceError : SubOk K mg "RaceError" sub_RaceError) :
    DefOk P w K mg base "_law_told" 7 ["_law_meeting_here", "_law_thing"] f__law_told := DefOk.mk' F g (fn_ok F c__law_told List.nodup_nil (by
  rintro X W cdv A outer s H E rfl hr tk hp
  exact (ss_cons (s_set 2 (f := true) c__law_told.nd e_non)
    (ss_cons (s_set 3 (f := true) c__law_told.nd e_non)
    (ss_cons (s_tryAs 4 rfl rfl rfl c__law_told.nd s_sub_RaceError tk (fun _ _ _ tk hp => (ss_one (s_set 3 (f := true) c__law_told.nd (e_fn d_paper_read hr.tr tk (a_cons (e_var 0) (a_cons (e_var 1) a_nil)))))) (fun _ _ => (ss_one (s_set 2 (f := true) c__law_told.nd (e_var 4)))))
    (ss_one (s_ret (e_if (t_cmp o_is (b_var 2) (EOk.bo e_non)) (e_var 3) (e_fn d__law_kinds hr tk (a_cons (e_var 2) a_nil)))))))))) fun _ _ _ _ _ _ us hl => match us, hl with | [_, _], _ => rfl
abbrev N_law : List Str := ["_law_script", "_law_plain", "_law_meeting_here", "_law_k", "_law_cell", "_law_paper_here", "_law_text_here", "_law_bent_here", "_law_one", "_law_odd", "_law_due"]
theorem c_law : FnScope N_law ["_law_script"] (defScope s_law) := ⟨rfl, rfl, rfl, by decide +kernel, rfl, by decide +kernel, by decide +kernel⟩
theorem o_law {P : Program} {w : World} {K : PySem.W.Frag} {mg : Str → Option Value} {base : Heap} {f : Addr} {fd : FuncData} (F : Fun K "law" "law" s_law f fd) (d_meeting_of : DefOk P w K mg base "meeting_of" 6 ["plain"] f_meeting_of) (d_paper_text : DefOk P w K mg base "paper_text" 5 ["paper"] f_paper_text) (d__law_mixed : DefOk P w K mg base "_law_mixed" 1 ["_law_cell", "_law_k"] f__law_mixed) (d__law_meeting : DefOk P w K mg base "_law_meeting" 3 ["_law_script", "_law_boats", "_law_races"] f__law_meeting) (d__law_paper : DefOk P w K mg base "_law_paper" 2 ["_law_cell", "_law_plain", "_law_number"] f__law_paper) (d__law_text : DefOk P w K mg base "_law_text" 2 ["_law_paper_here"] f__law_text) (d__law_read : DefOk P w K mg base "_law_read" 3 ["_law_plain", "_law_text_here"] f__law_read) (d__law_told : DefOk P w K mg base "_law_told" 7 ["_law_meeting_here", "_law_thing"] f__law_told) (d__law_bent : DefOk P w K mg base "_law_bent" 1 ["_law_plain", "_law_text_here", "_law_cell"] f__law_bent) (sk : SysK K) (m_enumerate : mg "enumerate" = none) (m_list : mg "list" = none) (m_repr : mg "repr" = none) :
    FnG P w K mg base 8 f fd ["_law_script"] (spF ⟨K, mg⟩ 1 [] f_law) := (fn_ok F c_law List.nodup_nil (by
  rintro X W cdv A outer s H E rfl hr tk hp
  exact (ss_cons (s_set 1 (f := true) c_law.nd (e_fn d__law_meeting hr tk (a_cons (e_var 0) (a_cons e_int (a_cons e_int a_nil)))))
    (ss_cons (s_set 2 (f := true) c_law.nd (e_fn d_meeting_of hr tk (a_cons (e_var 1) a_nil)))
    (ss_cons (s_for hp rfl (i_enum (bor := false) m_enumerate (a_cons (e_op o_add (EOk.bo (e_callTy (c_listX rfl) m_list (by decide +kernel) (ab_cons (EOk.bo (e_slice (b_var 0) (p_some (EOk.bo e_int)) (p_some (EOk.bo e_int)))) ab_nil))) (EOk.bo (e_lst (a_cons e_int a_nil)))) a_nil)) (g_tup rfl (gs_cons (g_nm 3 c_law.nd) (gs_cons (g_nm 4 c_law.nd) gs_nil)))
    (ss_cons (s_set 5 (f := true) c_law.nd (e_fn d__law_paper hr tk (a_cons (e_fn d__law_mixed hr tk (a_cons (e_var 4) (a_cons (e_op o_add (EOk.bo e_int) (b_var 3)) a_nil))) (a_cons (e_var 1) (a_cons (e_op o_add (EOk.bo e_int) (EOk.bo (e_op o_mod (EOk.bo (e_fn d__law_mixed hr tk (a_cons (e_var 4) (a_cons (e_op o_add (EOk.bo e_int) (b_var 3)) a_nil)))) (EOk.bo e_int)))) a_nil)))))
    (ss_cons (s_set 6 (f := true) c_law.nd (e_fn d__law_text hr tk (a_cons (e_var 5) a_nil)))
    (ss_cons (s_if (t_cmp (o_ne hr.r) (EOk.bo (e_fn d_paper_text hr tk (a_cons (e_var 5) a_nil))) (b_var 6)) (ss_one (s_ret e_bl)) ss_nil)
    (ss_cons (s_set 7 (f := true) c_law.nd (e_fn d__law_bent hr tk (a_cons (e_var 1) (a_cons (e_var 6) (a_cons (e_fn d__law_mixed hr tk (a_cons (e_var 4) (a_cons (e_op o_add (EOk.bo e_int) (b_var 3)) a_nil))) a_nil)))))
    (ss_cons (s_for hp rfl (i_any (bor := false) (e_fz (e_tup (a_cons (e_var 6) (a_cons (e_var 7) (a_cons (e_var 6) a_nil)))))) (g_nm 8 c_law.nd)
    (ss_cons (s_set 10 (f := true) c_law.nd (e_fn d__law_read hr tk (a_cons (e_var 1) (a_cons (e_var 8) a_nil))))
    (ss_one (s_if (t_cmp (o_ne hr.r) (EOk.bo (e_callB (c_repr hr sk) m_repr (by decide +kernel) (ab_cons (EOk.bo (e_fn d__law_told hr tk (a_cons (e_var 2) (a_cons (e_var 8) a_nil)))) ab_nil))) (EOk.bo (e_callB (c_repr hr sk) m_repr (by decide +kernel) (ab_cons (EOk.bo (e_if (t_cmp o_is (b_var 10) (EOk.bo e_non)) (e_lst (a_cons e_str a_nil)) (e_var 10))) ab_nil)))) (ss_one (s_ret e_bl)) ss_nil))))
    (ss_cons (s_set 9 (f := true) c_law.nd (e_ixF (hu_of hr.r) (e_lst (a_cons e_non (a_cons e_int (a_cons e_bl (a_cons (e_lst (a_cons (e_var 6) a_nil)) (a_cons (e_tup (a_cons (e_var 6) a_nil)) (a_cons e_dnew (a_cons (e_var 5) (a_cons e_str a_nil))))))))) (EOk.bo (e_op o_mod (EOk.bo (e_fn d__law_mixed hr tk (a_cons (e_var 4) (a_cons (e_op o_add (EOk.bo e_int) (b_var 3)) a_nil)))) (EOk.bo e_int)))))
    (ss_cons (s_if (t_cmp (o_ne hr.r) (EOk.bo (e_callB (c_repr hr sk) m_repr (by decide +kernel) (ab_cons (EOk.bo (e_fn d__law_told hr tk (a_cons (e_var 2) (a_cons (e_var 9) a_nil)))) ab_nil))) (EOk.bo (e_callB (c_repr hr sk) m_repr (by decide +kernel) (ab_cons (EOk.bo (e_lst (a_cons e_str a_nil))) ab_nil)))) (ss_one (s_ret e_bl)) ss_nil)
    (ss_one (s_if (t_cmp (o_ne hr.r) (EOk.bo (e_callB (c_repr hr sk) m_repr (by decide +kernel) (ab_cons (EOk.bo (e_fn d__law_told hr tk (a_cons (e_var 2) (a_cons (e_var 6) a_nil)))) ab_nil))) (EOk.bo (e_callB (c_repr hr sk) m_repr (by decide +kernel) (ab_cons (b_var 5) ab_nil)))) (ss_one (s_ret e_bl)) ss_nil))))))))))
    (ss_one (s_ret e_bl)))))))
theorem facts (law_true : ∀ ns : List Int, ns.length ≤ 63 → ∃ os, f_law [.scr ns] = .ok (.bl true) os) {P : Program} {w : World} {K : PySem.W.Frag} {h : Heap} {mg : Str → Option Value} {f : Addr} (X : K.In h) (G : h.Ns mainGlobals mg) (hfa : mg ("law" : Str) = some (.ref f)) (c : SaysLT fa fn ts w K) :
    ∃ (fd : FuncData) (φ : List D → FR), (∀ (s : Shared) (u : Value), BindsTo s fd ⟨[u], []⟩ [("_law_script", u)]) ∧ (∀ ns : List Int, ns.length ≤ 63 → ∃ os, φ [.scr ns] = .ok (.bl true) os) ∧ ∀ base : Heap, K.In base → base.Ns mainGlobals mg → TabsB K mg base → FnG P w K mg base 8 f fd ["_law_script"] (spF ⟨K, mg⟩ 1 [] φ) := by
  have gl := He.glo_ok X G (c.1.fact 0 (f := fB (.glo "law")) rfl)
  have e := hfa.symm.trans gl
  cases e
  obtain ⟨fd_law, F_law⟩ := (c.1.def_ 0 (d := h_law) rfl)
  refine ⟨fd_law, f_law, fun s u => FunD.bindsA (ps := ["_law_script"]) F_law (fun _ _ _ _ _ _ us hl => match us, hl with | [_], _ => rfl) s [u] rfl, law_true, fun base kb _ tabs => ?_⟩
  have fl_bearing : FldOk K mg "bearing" cs_bearing := fld_ok X G (c.1.fact 1 (f := fFld cs_bearing "bearing") rfl)
  obtain ⟨fd_FactorHandicap_init, F_FactorHandicap_init⟩ := (c.1.def_ 1 (d := h_FactorHandicap___init___) rfl)
  have k_FactorHandicap : MkOk P w K mg base "FactorHandicap" 1 ["self", "bearing"] f_Handicap___init__ := mk_ok (x := "__init__") (qual := "Handicap.__init__") (st := s_Handicap___init__) X G (c.1.fact 2 (f := fMk "FactorHandicap") rfl) (fun_of F_FactorHandicap_init) (o_Handicap___init__ (fun_of F_FactorHandicap_init) fl_bearing) (fun _ _ _ _ _ _ us hl => match us, hl with | [_, _], _ => rfl)
  obtain ⟨fd_YardHandicap_init, F_YardHandicap_init⟩ := (c.1.def_ 2 (d := h_YardHandicap___init___) rfl)
  have k_YardHandicap : MkOk P w K mg base "YardHandicap" 1 ["self", "bearing"] f_Handicap___init__ := mk_ok (x := "__init__") (qual := "Handicap.__init__") (st := s_Handicap___init__) X G (c.1.fact 3 (f := fMk "YardHandicap") rfl) (fun_of F_YardHandicap_init) (o_Handicap___init__ (fun_of F_YardHandicap_init) fl_bearing) (fun _ _ _ _ _ _ us hl => match us, hl with | [_, _], _ => rfl)
  obtain ⟨fd_MileHandicap_init, F_MileHandicap_init⟩ := (c.1.def_ 3 (d := h_MileHandicap___init___) rfl)
  have k_MileHandicap : MkOk P w K mg base "MileHandicap" 1 ["self", "bearing"] f_Handicap___init__ := mk_ok (x := "__init__") (qual := "Handicap.__init__") (st := s_Handicap___init__) X G (c.1.fact 4 (f := fMk "MileHandicap") rfl) (fun_of F_MileHandicap_init) (o_Handicap___init__ (fun_of F_MileHandicap_init) fl_bearing) (fun _ _ _ _ _ _ us hl => match us, hl with | [_, _], _ => rfl)
  obtain ⟨fd_LevelHandicap_init, F_LevelHandicap_init⟩ := (c.1.def_ 4 (d := h_LevelHandicap___init___) rfl)
  have k_LevelHandicap : MkOk P w K mg base "LevelHandicap" 1 ["self", "bearing"] f_Handicap___init__ := mk_ok (x := "__init__") (qual := "Handicap.__init__") (st := s_Handicap___init__) X G (c.1.fact 5 (f := fMk "LevelHandicap") rfl) (fun_of F_LevelHandicap_init) (o_Handicap___init__ (fun_of F_LevelHandicap_init) fl_bearing) (fun _ _ _ _ _ _ us hl => match us, hl with | [_, _], _ => rfl)
  obtain ⟨fd_handicap_of, F_handicap_of⟩ := (c.1.def_ 5 (d := h_handicap_of) rfl)
  have d_handicap_of : DefOk P w K mg base "handicap_of" 3 ["plain"] f_handicap_of := o_handicap_of (fun_of F_handicap_of) (He.glo_ok X G (c.1.fact 6 (f := fB (.glo "handicap_of")) rfl)) k_FactorHandicap k_YardHandicap k_MileHandicap k_LevelHandicap
  have fl_kinds : FldOk K mg "kinds" cs_kinds := fld_ok X G (c.1.fact 7 (f := fFld cs_kinds "kinds") rfl)
  have fl_crews : FldOk K mg "crews" cs_crews := fld_ok X G (c.1.fact 8 (f := fFld cs_crews "crews") rfl)
  have fl_limits : FldOk K mg "limits" cs_limits := fld_ok X G (c.1.fact 9 (f := fFld cs_limits "limits") rfl)
  have fl_runs : FldOk K mg "runs" cs_runs := fld_ok X G (c.1.fact 10 (f := fFld cs_runs "runs") rfl)
  have m_dict : mg "dict" = none := He.free_ok X G (c.1.fact 11 (f := fB (.free "dict")) rfl)
  have m_tuple : mg "tuple" = none := He.free_ok X G (c.1.fact 12 (f := fB (.free "tuple")) rfl)
  obtain ⟨fd_Meeting_init, F_Meeting_init⟩ := (c.1.def_ 6 (d := h_Meeting___init___) rfl)
  have k_Meeting : MkOk P w K mg base "Meeting" 4 ["self", "plain"] f_Meeting___init__ := mk_ok (x := "__init__") (qual := "Meeting.__init__") (st := s_Meeting___init__) X G (c.1.fact 13 (f := fMk "Meeting") rfl) (fun_of F_Meeting_init) (o_Meeting___init__ (fun_of F_Meeting_init) d_handicap_of fl_kinds fl_crews fl_limits fl_runs m_dict m_tuple) (fun _ _ _ _ _ _ us hl => match us, hl with | [_, _], _ => rfl)
  obtain ⟨fd_meeting_of, F_meeting_of⟩ := (c.1.def_ 7 (d := h_meeting_of) rfl)
  have d_meeting_of : DefOk P w K mg base "meeting_of" 6 ["plain"] f_meeting_of := o_meeting_of (fun_of F_meeting_of) (He.glo_ok X G (c.1.fact 14 (f := fB (.glo "meeting_of")) rfl)) k_Meeting
  have m_bool : mg "bool" = none := He.free_ok X G (c.1.fact 15 (f := fB (.free "bool")) rfl)
  have m_int : mg "int" = none := He.free_ok X G (c.1.fact 16 (f := fB (.free "int")) rfl)
  have m_isinstance : mg "isinstance" = none := He.free_ok X G (c.1.fact 17 (f := fB (.free "isinstance")) rfl)
  obtain ⟨fd_is_whole, F_is_whole⟩ := (c.1.def_ 8 (d := h_is_whole) rfl)
  have d_is_whole : DefOk P w K mg base "is_whole" 1 ["thing"] f_is_whole := o_is_whole (fun_of F_is_whole) (He.glo_ok X G (c.1.fact 18 (f := fB (.glo "is_whole")) rfl)) m_bool m_int m_isinstance
  have m_LAST : ∃ t, mg "LAST" = some (.int 359999 t) := He.int_ok X G (c.1.fact 19 (f := fB (.int "LAST" 359999)) rfl)
  obtain ⟨fd_is_time, F_is_time⟩ := (c.1.def_ 9 (d := h_is_time) rfl)
  have d_is_time : DefOk P w K mg base "is_time" 2 ["thing"] f_is_time := o_is_time (fun_of F_is_time) (He.glo_ok X G (c.1.fact 20 (f := fB (.glo "is_time")) rfl)) d_is_whole m_LAST
  have xc_BadTime : XcOk K mg "BadTime" := xc_ok X G (c.1.fact 21 (f := fXc "BadTime") rfl)
  obtain ⟨fd_need_time, F_need_time⟩ := (c.1.def_ 10 (d := h_need_time) rfl)
  have d_need_time : DefOk P w K mg base "need_time" 3 ["thing"] f_need_time := o_need_time (fun_of F_need_time) (He.glo_ok X G (c.1.fact 22 (f := fB (.glo "need_time")) rfl)) d_is_time xc_BadTime
  have m_HOUR : ∃ t, mg "HOUR" = some (.int 3600 t) := He.int_ok X G (c.1.fact 23 (f := fB (.int "HOUR" 3600)) rfl)
  have m_MINUTE : ∃ t, mg "MINUTE" = some (.int 60 t) := He.int_ok X G (c.1.fact 24 (f := fB (.int "MINUTE" 60)) rfl)
  have m_divmod : mg "divmod" = none := He.free_ok X G (c.1.fact 25 (f := fB (.free "divmod")) rfl)
  have m_str : mg "str" = none := He.free_ok X G (c.1.fact 26 (f := fB (.free "str")) rfl)
  obtain ⟨fd_time_text, F_time_text⟩ := (c.1.def_ 11 (d := h_time_text) rfl)
  have d_time_text : DefOk P w K mg base "time_text" 4 ["time"] f_time_text := o_time_text (fun_of F_time_text) (He.glo_ok X G (c.1.fact 27 (f := fB (.glo "time_text")) rfl)) d_need_time m_HOUR m_MINUTE m_divmod m_str
  have m_FINISH : ∃ t, mg "FINISH" = some (.str "finish" t) := He.str_ok X G (c.1.fact 28 (f := fB (.str "FINISH" "finish")) rfl)
  obtain ⟨fd_paper_text, F_paper_text⟩ := (c.1.def_ 12 (d := h_paper_text) rfl)
  have d_paper_text : DefOk P w K mg base "paper_text" 5 ["paper"] f_paper_text := o_paper_text (fun_of F_paper_text) (He.glo_ok X G (c.1.fact 29 (f := fB (.glo "paper_text")) rfl)) d_time_text m_FINISH m_str
  obtain ⟨fd__law_mixed, F__law_mixed⟩ := (c.1.def_ 13 (d := h__law_mixed) rfl)
  have d__law_mixed : DefOk P w K mg base "_law_mixed" 1 ["_law_cell", "_law_k"] f__law_mixed := o__law_mixed (fun_of F__law_mixed) (He.glo_ok X G (c.1.fact 30 (f := fB (.glo "_law_mixed")) rfl))
  have m_len : mg "len" = none := He.free_ok X G (c.1.fact 31 (f := fB (.free "len")) rfl)
  obtain ⟨fd__law_cell_at, F__law_cell_at⟩ := (c.1.def_ 14 (d := h__law_cell_at) rfl)
  have d__law_cell_at : DefOk P w K mg base "_law_cell_at" 1 ["_law_script", "_law_k"] f__law_cell_at := o__law_cell_at (fun_of F__law_cell_at) (He.glo_ok X G (c.1.fact 32 (f := fB (.glo "_law_cell_at")) rfl)) m_len
  have m_range : mg "range" = none := He.free_ok X G (c.1.fact 33 (f := fB (.free "range")) rfl)
  obtain ⟨fd__law_names, F__law_names⟩ := (c.1.def_ 15 (d := h__law_names) rfl)
  have d__law_names : DefOk P w K mg base "_law_names" 2 ["_law_cell", "_law_many"] f__law_names := o__law_names (fun_of F__law_names) (He.glo_ok X G (c.1.fact 34 (f := fB (.glo "_law_names")) rfl)) d__law_mixed m_range
  obtain ⟨fd__law_handicap, F__law_handicap⟩ := (c.1.def_ 16 (d := h__law_handicap) rfl)
  have d__law_handicap : DefOk P w K mg base "_law_handicap" 2 ["_law_cell"] f__law_handicap := o__law_handicap (fun_of F__law_handicap) (He.glo_ok X G (c.1.fact 35 (f := fB (.glo "_law_handicap")) rfl)) d__law_mixed
  have m_set : mg "set" = none := He.free_ok X G (c.1.fact 36 (f := fB (.free "set")) rfl)
  have m_sorted : mg "sorted" = none := He.free_ok X G (c.1.fact 37 (f := fB (.free "sorted")) rfl)
  obtain ⟨fd__law_meeting, F__law_meeting⟩ := (c.1.def_ 17 (d := h__law_meeting) rfl)
  have d__law_meeting : DefOk P w K mg base "_law_meeting" 3 ["_law_script", "_law_boats", "_law_races"] f__law_meeting := o__law_meeting (fun_of F__law_meeting) (He.glo_ok X G (c.1.fact 38 (f := fB (.glo "_law_meeting")) rfl)) d__law_cell_at d__law_mixed d__law_names d__law_handicap m_len m_range m_set m_sorted m_tuple
  obtain ⟨fd__law_entered, F__law_entered⟩ := (c.1.def_ 18 (d := h__law_entered) rfl)
  have d__law_entered : DefOk P w K mg base "_law_entered" 1 ["_law_plain", "_law_race"] f__law_entered := o__law_entered (fun_of F__law_entered) (He.glo_ok X G (c.1.fact 39 (f := fB (.glo "_law_entered")) rfl))
  have m_max : mg "max" = none := He.free_ok X G (c.1.fact 40 (f := fB (.free "max")) rfl)
  have m_min : mg "min" = none := He.free_ok X G (c.1.fact 41 (f := fB (.free "min")) rfl)
  obtain ⟨fd__law_paper, F__law_paper⟩ := (c.1.def_ 19 (d := h__law_paper) rfl)
  have d__law_paper : DefOk P w K mg base "_law_paper" 2 ["_law_cell", "_law_plain", "_law_number"] f__law_paper := o__law_paper (fun_of F__law_paper) (He.glo_ok X G (c.1.fact 42 (f := fB (.glo "_law_paper")) rfl)) d__law_mixed d__law_entered m_len m_max m_min
  obtain ⟨fd__law_time_text, F__law_time_text⟩ := (c.1.def_ 20 (d := h__law_time_text) rfl)
  have d__law_time_text : DefOk P w K mg base "_law_time_text" 1 ["_law_time"] f__law_time_text := o__law_time_text (fun_of F__law_time_text) (He.glo_ok X G (c.1.fact 43 (f := fB (.glo "_law_time_text")) rfl)) m_str
  obtain ⟨fd__law_text, F__law_text⟩ := (c.1.def_ 21 (d := h__law_text) rfl)
  have d__law_text : DefOk P w K mg base "_law_text" 2 ["_law_paper_here"] f__law_text := o__law_text (fun_of F__law_text) (He.glo_ok X G (c.1.fact 44 (f := fB (.glo "_law_text")) rfl)) d__law_time_text m_str
  obtain ⟨fd__law_whole, F__law_whole⟩ := (c.1.def_ 22 (d := h__law_whole) rfl)
  have d__law_whole : DefOk P w K mg base "_law_whole" 1 ["_law_word"] f__law_whole := o__law_whole (fun_of F__law_whole) (He.glo_ok X G (c.1.fact 45 (f := fB (.glo "_law_whole")) rfl)) m_int m_len
  obtain ⟨fd__law_seconds, F__law_seconds⟩ := (c.1.def_ 23 (d := h__law_seconds) rfl)
  have d__law_seconds : DefOk P w K mg base "_law_seconds" 2 ["_law_word"] f__law_seconds := o__law_seconds (fun_of F__law_seconds) (He.glo_ok X G (c.1.fact 46 (f := fB (.glo "_law_seconds")) rfl)) d__law_whole m_int m_len m_max
  obtain ⟨fd__law_read, F__law_read⟩ := (c.1.def_ 24 (d := h__law_read) rfl)
  have d__law_read : DefOk P w K mg base "_law_read" 3 ["_law_plain", "_law_text_here"] f__law_read := o__law_read (fun_of F__law_read) (He.glo_ok X G (c.1.fact 47 (f := fB (.glo "_law_read")) rfl)) d__law_entered d__law_whole d__law_seconds m_dict m_len
  have m_FIGURES : ∃ t, mg "FIGURES" = some (.str "0123456789" t) := He.str_ok X G (c.1.fact 48 (f := fB (.str "FIGURES" "0123456789")) rfl)
  have m_all : mg "all" = none := He.free_ok X G (c.1.fact 49 (f := fB (.free "all")) rfl)
  obtain ⟨fd_are_figures, F_are_figures⟩ := (c.1.def_ 25 (d := h_are_figures) rfl)
  have d_are_figures : DefOk P w K mg base "are_figures" 1 ["text", "least", "most"] f_are_figures := o_are_figures (fun_of F_are_figures) (He.glo_ok X G (c.1.fact 50 (f := fB (.glo "are_figures")) rfl)) m_FIGURES m_all m_len
  have m_MOST_FIGURES : ∃ t, mg "MOST_FIGURES" = some (.int 4 t) := He.int_ok X G (c.1.fact 51 (f := fB (.int "MOST_FIGURES" 4)) rfl)
  obtain ⟨fd_number_in, F_number_in⟩ := (c.1.def_ 26 (d := h_number_in) rfl)
  have d_number_in : DefOk P w K mg base "number_in" 2 ["word"] f_number_in := o_number_in (fun_of F_number_in) (He.glo_ok X G (c.1.fact 52 (f := fB (.glo "number_in")) rfl)) d_are_figures m_MOST_FIGURES m_int
  obtain ⟨fd_time_read, F_time_read⟩ := (c.1.def_ 27 (d := h_time_read) rfl)
  have d_time_read : DefOk P w K mg base "time_read" 2 ["text"] f_time_read := o_time_read (fun_of F_time_read) (He.glo_ok X G (c.1.fact 53 (f := fB (.glo "time_read")) rfl)) d_are_figures xc_BadTime m_HOUR m_MINUTE m_int m_isinstance m_len m_str
  have s_sub_BadTime : SubOk K mg "BadTime" sub_BadTime := sub_ok X G (c.1.fact 54 (f := fSub "BadTime" sub_BadTime) rfl)
  obtain ⟨fd_time_in, F_time_in⟩ := (c.1.def_ 28 (d := h_time_in) rfl)
  have d_time_in : DefOk P w K mg base "time_in" 3 ["word"] f_time_in := o_time_in (fun_of F_time_in) (He.glo_ok X G (c.1.fact 55 (f := fB (.glo "time_in")) rfl)) d_time_read s_sub_BadTime
  obtain ⟨fd_is_in, F_is_in⟩ := (c.1.def_ 29 (d := h_is_in) rfl)
  have d_is_in : DefOk P w K mg base "is_in" 1 ["thing", "some"] f_is_in := o_is_in (fun_of F_is_in) (He.glo_ok X G (c.1.fact 56 (f := fB (.glo "is_in")) rfl)) m_isinstance m_str
  obtain ⟨fd_is_among, F_is_among⟩ := (c.1.def_ 30 (d := h_is_among) rfl)
  have d_is_among : DefOk P w K mg base "is_among" 2 ["thing", "least", "most"] f_is_among := o_is_among (fun_of F_is_among) (He.glo_ok X G (c.1.fact 57 (f := fB (.glo "is_among")) rfl)) d_is_whole
  have xc_NoName : XcOk K mg "NoName" := xc_ok X G (c.1.fact 58 (f := fXc "NoName") rfl)
  obtain ⟨fd_Meeting_race, F_Meeting_race⟩ := (c.1.def_ 31 (d := h_Meeting_race_) rfl)
  have M_Meeting_race : MthOk P w K mg base "Meeting" "race" 2 ["self", "name"] [] f_Meeting_race := mth_ok (x := "race") (qual := "Meeting.race") (st := s_Meeting_race) X G (c.1.fact 59 (f := fMth "Meeting" "race") rfl) (fun_of F_Meeting_race) (o_Meeting_race (fun_of F_Meeting_race) d_is_in fl_runs xc_NoName) (fun _ _ _ _ _ _ us hl => match us, hl with | [_, _], _ => rfl)
  have t_race : TabOk P w K mg base "race" 2 ["self", "name"] tab_race := (.cons M_Meeting_race (by decide) .nil)
  have gd_TOLD : GDct K w mg "TOLD" kd_TOLD := gdct_ok X G (c.1.fact 60 (f := fDctC "TOLD" [("code", Kv.tup [.str "away", .str "unstarted", .str "early", .str "unfinished", .str "retired", .str "out", .str "barred"]), ("help", Kv.tup [.str "every", .str "ahead"])]) rfl) (c.tab 0 (t := ("TOLD", ["code", "help"])) rfl)
  have m_COST : ∃ t, mg "COST" = some (.str "cost" t) := He.str_ok X G (c.1.fact 61 (f := fB (.str "COST" "cost")) rfl)
  have m_MOST_PLACES : ∃ t, mg "MOST_PLACES" = some (.int 20 t) := He.int_ok X G (c.1.fact 62 (f := fB (.int "MOST_PLACES" 20)) rfl)
  obtain ⟨fd_is_told, F_is_told⟩ := (c.1.def_ 32 (d := h_is_told) rfl)
  have d_is_told : DefOk P w K mg base "is_told" 3 ["meeting", "word", "race", "thing"] f_is_told := o_is_told (fun_of F_is_told) (He.glo_ok X G (c.1.fact 63 (f := fB (.glo "is_told")) rfl)) d_is_time d_is_in d_is_among t_race gd_TOLD m_COST m_FINISH m_MOST_PLACES
  have gt_OF_BOATS : GTup K mg "OF_BOATS" [.str "finish", .str "code", .str "cost", .str "help"] := gtup_ok X G (c.1.fact 64 (f := fTupC "OF_BOATS" [.str "finish", .str "code", .str "cost", .str "help"]) rfl)
  have m_list : mg "list" = none := He.free_ok X G (c.1.fact 65 (f := fB (.free "list")) rfl)
  obtain ⟨fd_Meeting_races, F_Meeting_races⟩ := (c.1.def_ 33 (d := h_Meeting_races_) rfl)
  have M_Meeting_races : MthOk P w K mg base "Meeting" "races" 1 ["self"] [] f_Meeting_races := mth_ok (x := "races") (qual := "Meeting.races") (st := s_Meeting_races) X G (c.1.fact 66 (f := fMth "Meeting" "races") rfl) (fun_of F_Meeting_races) (o_Meeting_races (fun_of F_Meeting_races) fl_runs m_list) (fun _ _ _ _ _ _ us hl => match us, hl with | [_], _ => rfl)
  have t_races : TabOk P w K mg base "races" 1 ["self"] tab_races := (.cons M_Meeting_races (by decide) .nil)
  obtain ⟨fd_Meeting_fleets, F_Meeting_fleets⟩ := (c.1.def_ 34 (d := h_Meeting_fleets_) rfl)
  have M_Meeting_fleets : MthOk P w K mg base "Meeting" "fleets" 1 ["self"] [] f_Meeting_fleets := mth_ok (x := "fleets") (qual := "Meeting.fleets") (st := s_Meeting_fleets) X G (c.1.fact 67 (f := fMth "Meeting" "fleets") rfl) (fun_of F_Meeting_fleets) (o_Meeting_fleets (fun_of F_Meeting_fleets) fl_crews m_dict m_list) (fun _ _ _ _ _ _ us hl => match us, hl with | [_], _ => rfl)
  have t_fleets : TabOk P w K mg base "fleets" 1 ["self"] tab_fleets := (.cons M_Meeting_fleets (by decide) .nil)
  have m_ALL : ∃ t, mg "ALL" = some (.str "all" t) := He.str_ok X G (c.1.fact 68 (f := fB (.str "ALL" "all")) rfl)
  obtain ⟨fd_Meeting_sails_of, F_Meeting_sails_of⟩ := (c.1.def_ 35 (d := h_Meeting_sails_of_) rfl)
  have M_Meeting_sails_of : MthOk P w K mg base "Meeting" "sails_of" 2 ["self", "fleet"] [] f_Meeting_sails_of := mth_ok (x := "sails_of") (qual := "Meeting.sails_of") (st := s_Meeting_sails_of) X G (c.1.fact 69 (f := fMth "Meeting" "sails_of") rfl) (fun_of F_Meeting_sails_of) (o_Meeting_sails_of (fun_of F_Meeting_sails_of) d_is_in t_fleets xc_NoName fl_crews m_ALL) (fun _ _ _ _ _ _ us hl => match us, hl with | [_, _], _ => rfl)
  have t_sails_of : TabOk P w K mg base "sails_of" 2 ["self", "fleet"] tab_sails_of := (.cons M_Meeting_sails_of (by decide) .nil)
  obtain ⟨fd_Meeting_entered, F_Meeting_entered⟩ := (c.1.def_ 36 (d := h_Meeting_entered_) rfl)
  have M_Meeting_entered : MthOk P w K mg base "Meeting" "entered" 3 ["self", "race"] [] f_Meeting_entered := mth_ok (x := "entered") (qual := "Meeting.entered") (st := s_Meeting_entered) X G (c.1.fact 70 (f := fMth "Meeting" "entered") rfl) (fun_of F_Meeting_entered) (o_Meeting_entered (fun_of F_Meeting_entered) t_sails_of t_race) (fun _ _ _ _ _ _ us hl => match us, hl with | [_, _], _ => rfl)
  have t_entered : TabOk P w K mg base "entered" 3 ["self", "race"] tab_entered := (.cons M_Meeting_entered (by decide) .nil)
  have m_MOST_NUMBER : ∃ t, mg "MOST_NUMBER" = some (.int 9999 t) := He.int_ok X G (c.1.fact 71 (f := fB (.int "MOST_NUMBER" 9999)) rfl)
  have m_OFF : ∃ t, mg "OFF" = some (.str "off" t) := He.str_ok X G (c.1.fact 72 (f := fB (.str "OFF" "off")) rfl)
  have m_VOID : ∃ t, mg "VOID" = some (.str "void" t) := He.str_ok X G (c.1.fact 73 (f := fB (.str "VOID" "void")) rfl)
  obtain ⟨fd_is_paper, F_is_paper⟩ := (c.1.def_ 37 (d := h_is_paper) rfl)
  have d_is_paper : DefOk P w K mg base "is_paper" 4 ["meeting", "thing"] f_is_paper := o_is_paper (fun_of F_is_paper) (He.glo_ok X G (c.1.fact 74 (f := fB (.glo "is_paper")) rfl)) d_is_in d_is_among d_is_told gt_OF_BOATS t_races t_entered m_MOST_NUMBER m_OFF m_VOID m_isinstance m_len m_tuple
  have xc_BadPaper : XcOk K mg "BadPaper" := xc_ok X G (c.1.fact 75 (f := fXc "BadPaper") rfl)
  obtain ⟨fd_need_paper, F_need_paper⟩ := (c.1.def_ 38 (d := h_need_paper) rfl)
  have d_need_paper : DefOk P w K mg base "need_paper" 5 ["meeting", "thing"] f_need_paper := o_need_paper (fun_of F_need_paper) (He.glo_ok X G (c.1.fact 76 (f := fB (.glo "need_paper")) rfl)) d_is_paper xc_BadPaper
  obtain ⟨fd_paper_read, F_paper_read⟩ := (c.1.def_ 39 (d := h_paper_read) rfl)
  have d_paper_read : DefOk P w K mg base "paper_read" 6 ["meeting", "text"] f_paper_read := o_paper_read (fun_of F_paper_read) (He.glo_ok X G (c.1.fact 77 (f := fB (.glo "paper_read")) rfl)) d_number_in d_time_in d_need_paper xc_BadPaper m_COST m_FINISH m_VOID m_isinstance m_len m_str m_tuple
  have ie_BadPaper : ∃ D, mg "BadPaper" = some (.ref D) ∧ IsExc K mg (.ref D) ist_BadPaper := isEG_ok X G (c.1.fact 78 (f := fB (.glo "BadPaper")) rfl) (c.1.fact 79 (f := fIsE (uGlo "BadPaper") ist_BadPaper) rfl)
  have ie_BadTime : ∃ D, mg "BadTime" = some (.ref D) ∧ IsExc K mg (.ref D) ist_BadTime := isEG_ok X G (c.1.fact 80 (f := fB (.glo "BadTime")) rfl) (c.1.fact 81 (f := fIsE (uGlo "BadTime") ist_BadTime) rfl)
  have ie_BadText : ∃ D, mg "BadText" = some (.ref D) ∧ IsExc K mg (.ref D) ist_BadText := isEG_ok X G (c.1.fact 82 (f := fB (.glo "BadText")) rfl) (c.1.fact 83 (f := fIsE (uGlo "BadText") ist_BadText) rfl)
  have ie_NoName : ∃ D, mg "NoName" = some (.ref D) ∧ IsExc K mg (.ref D) ist_NoName := isEG_ok X G (c.1.fact 84 (f := fB (.glo "NoName")) rfl) (c.1.fact 85 (f := fIsE (uGlo "NoName") ist_NoName) rfl)
  have ie_NoNumber : ∃ D, mg "NoNumber" = some (.ref D) ∧ IsExc K mg (.ref D) ist_NoNumber := isEG_ok X G (c.1.fact 86 (f := fB (.glo "NoNumber")) rfl) (c.1.fact 87 (f := fIsE (uGlo "NoNumber") ist_NoNumber) rfl)
  have ie_BadPair : ∃ D, mg "BadPair" = some (.ref D) ∧ IsExc K mg (.ref D) ist_BadPair := isEG_ok X G (c.1.fact 88 (f := fB (.glo "BadPair")) rfl) (c.1.fact 89 (f := fIsE (uGlo "BadPair") ist_BadPair) rfl)
  have it_ValueError : IsExc K mg (.type "ValueError") ist_ValueError := isE_ok X G (u := uTy "ValueError") (c.1.fact 90 (f := fIsE (uTy "ValueError") ist_ValueError) rfl)
  have m_ValueError : mg "ValueError" = none := He.free_ok X G (c.1.fact 91 (f := fB (.free "ValueError")) rfl)
  obtain ⟨fd__law_kinds, F__law_kinds⟩ := (c.1.def_ 40 (d := h__law_kinds) rfl)
  have d__law_kinds : DefOk P w K mg base "_law_kinds" 1 ["_law_e"] f__law_kinds := o__law_kinds (fun_of F__law_kinds) (He.glo_ok X G (c.1.fact 92 (f := fB (.glo "_law_kinds")) rfl)) ie_BadPaper ie_BadTime ie_BadText ie_NoName ie_NoNumber ie_BadPair it_ValueError m_ValueError m_int m_isinstance
  have s_sub_RaceError : SubOk K mg "RaceError" sub_RaceError := sub_ok X G (c.1.fact 93 (f := fSub "RaceError" sub_RaceError) rfl)
  obtain ⟨fd__law_told, F__law_told⟩ := (c.1.def_ 41 (d := h__law_told) rfl)
  have d__law_told : DefOk P w K mg base "_law_told" 7 ["_law_meeting_here", "_law_thing"] f__law_told := o__law_told (fun_of F__law_told) (He.glo_ok X G (c.1.fact 94 (f := fB (.glo "_law_told")) rfl)) d_paper_read d__law_kinds s_sub_RaceError
  obtain ⟨fd__law_bent, F__law_bent⟩ := (c.1.def_ 42 (d := h__law_bent) rfl)
  have d__law_bent : DefOk P w K mg base "_law_bent" 1 ["_law_plain", "_law_text_here", "_law_cell"] f__law_bent := o__law_bent (fun_of F__law_bent) (He.glo_ok X G (c.1.fact 95 (f := fB (.glo "_law_bent")) rfl)) m_int m_len
  have sk : SysK K := sys_ok (c.1.fact 96 (f := fSys) rfl)
  have m_enumerate : mg "enumerate" = none := He.free_ok X G (c.1.fact 97 (f := fB (.free "enumerate")) rfl)
  have m_repr : mg "repr" = none := He.free_ok X G (c.1.fact 98 (f := fB (.free "repr")) rfl)
  exact o_law (fun_of F_law) d_meeting_of d_paper_text d__law_mixed d__law_meeting d__law_paper d__law_text d__law_read d__law_told d__law_bent sk m_enumerate m_list m_repr
theorem holds (law_true : ∀ ns : List Int, ns.length ≤ 63 → ∃ os, f_law [.scr ns] = .ok (.bl true) os) : PySem.Challenge.rw_regattaroll_k21_papers_written_and_read.Holds := by
  w_on; o_law
  refine HandSHeadRun.head_any (r := R) (q := PySem.W.view R.prog [68]) (H := hk) (ob := ob) (M := 30000) (loose := loose) (d := HandSHeadRun.topDef R.prog 68) (kwd := []) ob_eq
    (by kernel_rfl) (fun s => by kernel_rfl) run (by kernel_rfl) (by kernel_rfl) (by kernel_rfl) (by rfl) (by first | assumption | decide +kernel) (by decide +kernel) ⟨rfl, rfl, rfl, rfl, rfl, by decide +kernel⟩ ?hw ?hc
  case hw => w_witness2
  case hc =>
    refine walkG (l := PySem.Challenge.rw_regattaroll_k21_papers_written_and_read) (n := 63) (k := 8) (x := "_law_script") rfl (by decide) (by kernel_rfl) ⟨rfl, by decide, by decide⟩ ?F
    intro w mg fa h Y G hmg0
    obtain ⟨K, KX, c, TK⟩ := Y
    have hmg : mg ("law" : PySem.Str) = some (.ref fa) := by
      have e : (HandSHeadRun.topDef R.prog 68).name = ("law" : PySem.Str) := by kernel_rfl
      rw [← e]
      exact hmg0
    obtain ⟨fd, φ, hb, hφ, hF⟩ := facts law_true (P := R.prog) (w := w) KX G hmg c
    exact ⟨K, fd, φ, KX, TK, hb, hφ, hF⟩
end Lk21
namespace Lk21
open PySem RL RM RG RQ RW RE
open RR (numIn optD timeIn numIn_le)
open RX (wI lwhole_eq lseconds_eq)
theorem same_whole : f__law_whole = RX.f__law_whole := rfl
theorem same_seconds : f__law_seconds = RX.f__law_seconds := rfl
theorem same_entered : f__law_entered = RQ.f__law_entered := rfl
theorem same_paper : f__law_paper = RQ.f__law_paper := rfl
theorem same_mixed : f__law_mixed = RN.f__law_mixed := rfl
theorem same_meeting : f__law_meeting = RM.f__law_meeting := rfl
theorem same_of : f_meeting_of = RG.f_meeting_of := rfl
theorem same_read : f_paper_read = RE.f_paper_read sub_BadTime := rfl
theorem same_ptext : f_paper_text = RE.f_paper_text := rfl
theorem same_ltext : f__law_text = RE.f__law_text := rfl
theorem isP_35 {m : Mt} {xs : List D} (h3 : xs.length ≠ 3) (h5 : xs.length ≠ 5) : isP m (.tup xs) = false := by
  match xs, h3, h5 with
  | [], _, _ => rfl
  | [a], _, _ => cases a <;> rfl
  | [a, b], _, _ => cases a <;> first | rfl | (cases b <;> rfl)
  | a :: b :: c :: r, h3, h5 =>
    have l0 : r.length ≠ 0 := by simpa using h3
    have l2 : r.length ≠ 2 := by simpa using h5
    cases a with
    | int n =>
      cases b with
      | str w =>
        show (wh (.int n) 1 9999 && _) = false
        rw [Bool.and_eq_false_iff]
        right
        split
        · simp [l0]
        · split
          · simp [l0]
          · split
            · simp at l2
            · rfl
      | _ => rfl
    | _ => rfl
abbrev RD (m : Mt) : D := dT false (fun r : RcT => r.1) raceD m.rs
abbrev EV (m : Mt) (x : Str) (ws : List Str) (n t g c : Option D) : RL.Env := [some m.D, some (.str x), some (.lst false (ws.map .str)), some (RD m), n, t, g, none, c]
section
variable {m : Mt} {nb nr : Nat}
theorem q_e2 (g : Good nb nr m) (hr : nr ≤ 1000) {x : Str} {W : D} : t__law_read_2 [some m.D, some (.str x), some W, none, none, none, none, none, none] = .nx [some m.D, some (.str x), some W, some (RD m), none, none, none, none, none] := by
  have h2 : 2 ≤ sizeLine := by decide
  have rn := g.rn
  have l0 : l__law_read_1 [some m.D, some (.str x), some W, none, none, none, none, none, none] = .ok (.lst true (m.rs.map fun r => .tup [.str r.1, raceD r])) := by
    refine lc_map (e := raceD) (by omega) (by simp [ix3, cR]) fun r _ => ?_
    simp [lcOne, wipeE, raceD, h2]
  have dd := dict_T (o := true) (v := raceD) g.rnd
  have ff := dT_frz_same (o := true) (k := fun r : RcT => r.1) (v := raceD) (xs := m.rs) fun r _ => raceD_frz r
  simp [t__law_read_2, l0, dd, ff]
theorem in35 {k : Int} : oNotIn (.int k) (.tup [.int 3, .int 5]) = some (.bl (!(decide (k = 3) || decide (k = 5)))) := by
  have : (L2.inV (.int k) [.int 3, .int 5]) = (decide (k = 3) || decide (k = 5)) := by
    have := inV_int (x := k) (xs := [3, 5])
    simpa using this
  show (fIn (.int k) (.tup [.int 3, .int 5])).map _ = _
  show ((some (L2.inV (.int k) [.int 3, .int 5]) : Option Bool)).map _ = _
  rw [this]
  rfl
theorem q_e4 {x : Str} {ws : List Str} {n : Int} : t__law_read_4 (EV m x ws (some (.int n)) none none none) = if 1 ≤ n ∧ (ws.length = 3 ∨ ws.length = 5) then .nx (EV m x ws (some (.int n)) none none none) else .rt .non (EV m x ws (some (.int n)) none none none) := by
  have ln : fLenX (.lst false (ws.map .str)) = some (.int ws.length) := by simp
  have i := in35 (k := (ws.length : Int))
  have h2 : 2 ≤ sizeLine := by decide
  rw [t__law_read_4]
  by_cases c : 1 ≤ n
  · have c' : ¬ n < 1 := by omega
    by_cases c3 : ws.length = 3
    · rw [if_pos ⟨c, .inl c3⟩]
      have d3 : decide ((ws.length : Int) = 3) = true := decide_eq_true (by omega)
      rw [d3] at i
      simp [c', i, h2]
    · by_cases c5 : ws.length = 5
      · rw [if_pos ⟨c, .inr c5⟩]
        have d5 : decide ((ws.length : Int) = 5) = true := decide_eq_true (by omega)
        rw [d5] at i
        simp [c', i, h2]
      · rw [if_neg fun z => by omega]
        have d3 : decide ((ws.length : Int) = 3) = false := decide_eq_false (by omega)
        have d5 : decide ((ws.length : Int) = 5) = false := decide_eq_false (by omega)
        rw [d3, d5] at i
        simp [c', i, h2]
  · rw [if_neg fun z => c z.1]
    have c' : n < 1 := by omega
    simp [c']
theorem r3 (g : Good nb nr m) {x a b c : Str} (hc : c.length ≤ 1000) (kc : PyData.strOk c = true) {n : Int} :
    ((sThen t__law_read_6 (sThen t__law_read_7 (sThen t__law_read_9 (sThen t__law_read_10 (sThen t__law_read_11 (sThen t__law_read_21 t__law_read_22))))))) (EV m x [a, b, c] (some (.int n)) none none none) =
      .rt (if (if b = wVoid then wh (optD (numIn c)) 1 (n - 1) else if b = wOff then isIn (.str c) (m.rs.map fun r => r.1) else false) = true then .tup [.int n, .str b, if b = wVoid then optD (numIn c) else .str c] else .non) (EV m x [a, b, c] (some (.int n)) none none none) := by
  have h3 : 3 ≤ sizeLine := by decide
  have lw := lwhole_eq hc kc
  rw [← same_whole] at lw
  have i1 : opIx (.lst false [.str a, .str b, .str c]) (.int 1) = some (.str b) := by simp
  have i2 : opIx (.lst false [.str a, .str b, .str c]) (.int 2) = some (.str c) := by simp
  by_cases v : b = wVoid
  · subst v
    rw [if_pos rfl, if_pos rfl, sThen_ap]
    have e6 : t__law_read_6 (EV m x [a, wVoid, c] (some (.int n)) none none none) = t__law_read_5 (EV m x [a, wVoid, c] (some (.int n)) none none none) := by
      rw [t__law_read_6]
      simp [i1, -opIx_l]
    have w : wh (optD (numIn c)) 1 (n - 1) = (decide (0 < wI (numIn c)) && decide (wI (numIn c) < n)) := by
      cases q : numIn c with
      | none => simp [optD, wh, wI]
      | some k =>
        show (decide (1 ≤ k) && decide (k ≤ n - 1)) = (decide (0 < k) && decide (k < n))
        congr 1 <;> rw [decide_eq_decide] <;> omega
    rw [w, e6]
    cases q : numIn c with
    | none =>
      rw [q] at lw
      simp only [wI, Option.getD_none] at lw ⊢
      simp [t__law_read_5, i2, lw, -opIx_l]
    | some k =>
      rw [q] at lw
      simp only [wI, Option.getD_some] at lw ⊢
      by_cases c1 : 0 < k
      · by_cases c2 : k < n
        · simp [t__law_read_5, i2, lw, c1, c2, h3, optD, -opIx_l]
        · simp [t__law_read_5, i2, lw, c1, c2, h3, optD, -opIx_l]
      · simp [t__law_read_5, i2, lw, c1, h3, optD, -opIx_l]
  · rw [if_neg v, if_neg v]
    have e6 : t__law_read_6 (EV m x [a, b, c] (some (.int n)) none none none) = .nx (EV m x [a, b, c] (some (.int n)) none none none) := by
      rw [t__law_read_6]
      simp [i1, v, -opIx_l]
    have nt := notin_T (o := false) (k := fun r : RcT => r.1) (v := raceD) (xs := m.rs) (s := c)
    have ii : isIn (.str c) (m.rs.map fun r => r.1) = decide (c ∈ m.rs.map fun r => r.1) := rfl
    rw [sThen_ap, e6, andThen_nx, sThen_ap, ii]
    by_cases r : c ∈ m.rs.map fun r => r.1
    · rw [decide_eq_true r] at nt ⊢
      have e7 : t__law_read_7 (EV m x [a, b, c] (some (.int n)) none none none) = .nx (EV m x [a, b, c] (some (.int n)) none none none) := by
        rw [t__law_read_7]
        simp [i2, nt, -opIx_l]
      rw [e7, andThen_nx, sThen_ap]
      by_cases o : b = wOff
      · subst o
        rw [if_pos rfl, t__law_read_9]
        simp [i1, i2, t__law_read_8, h3, -opIx_l]
      · rw [if_neg o, t__law_read_9]
        simp [i1, i2, t__law_read_8, h3, o, -opIx_l]
    · rw [decide_eq_false r] at nt ⊢
      have e7 : t__law_read_7 (EV m x [a, b, c] (some (.int n)) none none none) = .rt .non (EV m x [a, b, c] (some (.int n)) none none none) := by
        rw [t__law_read_7]
        simp [i2, nt, -opIx_l]
      rw [e7]
      by_cases o : b = wOff <;> simp [o]
end
end Lk21
namespace Lk21
open PySem RL RM RG RQ RW RE
open RR (numIn optD timeIn numIn_le)
open RX (wI lwhole_eq lseconds_eq)
theorem tread_le {ps : List Str} {t : Int} (h : RT.tread ps = some t) : 0 ≤ t ∧ t ≤ 359999 := by
  unfold RT.tread at h
  split at h
  · rename_i p q r
    split at h
    · rename_i c
      simp only [RT.figsB, Bool.and_eq_true, decide_eq_true_eq] at c
      obtain ⟨a, ha, ha2⟩ := RT.fig_int c.1.2.2 (by omega) (by omega)
      obtain ⟨b, hb, hb2⟩ := RT.fig_int c.2.1.2.2 (by omega) (by omega)
      obtain ⟨d, hd, hd2⟩ := RT.fig_int c.2.2.2.2 (by omega) (by omega)
      rw [ha, hb, hd] at h
      simp only at h
      split at h
      · rename_i k
        cases h
        omega
      · cases h
    · cases h
  · cases h
section
variable {m : Mt} {nb nr : Nat}
abbrev five (a b c d e : Str) : List Str := [a, b, c, d, e]
theorem f_ix {a b c d e : Str} : opIx (.lst false ((five a b c d e).map .str)) (.int 1) = some (.str b) ∧ opIx (.lst false ((five a b c d e).map .str)) (.int 2) = some (.str c) ∧ opIx (.lst false ((five a b c d e).map .str)) (.int 3) = some (.str d) ∧ opIx (.lst false ((five a b c d e).map .str)) (.int 4) = some (.str e) := by
  exact ⟨rfl, rfl, rfl, rfl⟩
theorem t_good (g : Good nb nr m) {x a b c d e : Str} {x0 : RcT} (hx : x0 ∈ m.rs) (hc : x0.1 = c) (he : e.length ≤ 1000) (ke : PyData.strOk e = true) {n : Int} :
    ∃ (t cd : D) (cd' : Option D) (gd : Bool), t__law_read_21 (EV m x (five a b c d e) (some (.int n)) (some (.str e)) none none) = .nx (EV m x (five a b c d e) (some (.int n)) (some t) (some (.bl gd)) cd') ∧
      gd = (decide (b ∈ words4) && told x0 b (lastD b e)) ∧ (gd = true → t = lastD b e) ∧ t.clean = true := by
  have lw := lwhole_eq he ke
  rw [← same_whole] at lw
  have ls := lseconds_eq he ke
  rw [← same_seconds] at ls
  obtain ⟨i1, i2, i3, i4⟩ := f_ix (a := a) (b := b) (c := c) (d := d) (e := e)
  simp only [five, List.map_cons, List.map_nil] at i1 i2 i3 i4
  have wn := w_ne
  have z7 : 7 ≤ sizeLine := by decide
  have z2 : 2 ≤ sizeLine := by decide
  have ix := ix_T (o := false) (v := raceD) hx g.rnd
  rw [hc] at ix
  have st : opIx (raceD x0) (.int 2) = some (.int x0.2.2.1) := rfl
  have s0 := (g.rok x0 hx).2.1
  by_cases b1 : b = wFin
  · have e21 : t__law_read_21 (EV m x (five a b c d e) (some (.int n)) (some (.str e)) none none) = .nx (EV m x (five a b c d e) (some (.int n)) (some (.int (wI (timeIn e)))) (some (.bl (decide (x0.2.2.1 ≤ wI (timeIn e))))) none) := by
      rw [t__law_read_21]
      rw [b1] at i1 i2 i4
      simp [i1, i2, i4, b1, t__law_read_12, t__law_read_13, ls, ix, st, -opIx_l]
    refine ⟨_, .non, _, _, e21, ?_, ?_, rfl⟩
    · have c1 : ¬ (b = wCost ∨ b = wVoid) := by rw [b1]; decide +kernel
      rw [lastD, if_neg c1, if_pos b1, told, if_pos b1]
      have : b ∈ words4 := by rw [b1]; simp
      rw [decide_eq_true this, Bool.true_and]
      cases q : timeIn e with
      | none =>
        show decide (x0.2.2.1 ≤ -1) = false
        exact decide_eq_false (by omega)
      | some k =>
        have := tread_le q
        show decide (x0.2.2.1 ≤ k) = (decide (x0.2.2.1 ≤ k) && decide (k ≤ 359999))
        rw [decide_eq_true (p := k ≤ 359999) this.2, Bool.and_true]
    · intro h
      have c1 : ¬ (b = wCost ∨ b = wVoid) := by rw [b1]; decide +kernel
      rw [lastD, if_neg c1, if_pos b1]
      cases q : timeIn e with
      | none =>
        rw [q] at h
        have := of_decide_eq_true h
        simp only [wI, Option.getD_none] at this
        omega
      | some k => rfl
  · by_cases b2 : b = wCost
    · have e21 : t__law_read_21 (EV m x (five a b c d e) (some (.int n)) (some (.str e)) none none) = .nx (EV m x (five a b c d e) (some (.int n)) (some (.int (wI (numIn e)))) (some (.bl (decide (0 < wI (numIn e)) && decide (wI (numIn e) < 21)))) none) := by
        rw [t__law_read_21]
        have nf : ¬ (wCost = wFin) := fun z => wn.1 z.symm
        rw [b2] at i1 i2 i4
        by_cases k1 : 0 < wI (numIn e) <;> simp [i1, i2, i4, b2, nf, t__law_read_20, t__law_read_14, t__law_read_15, lw, k1, -opIx_l]
      refine ⟨_, .non, _, _, e21, ?_, ?_, rfl⟩
      · have c1 : (b = wCost ∨ b = wVoid) := .inl b2
        rw [lastD, if_pos c1, told, if_neg b1, if_pos b2]
        have : b ∈ words4 := by rw [b2]; simp
        rw [decide_eq_true this, Bool.true_and]
        cases q : numIn e with
        | none => rfl
        | some k =>
          show (decide (0 < k) && decide (k < 21)) = (decide (1 ≤ k) && decide (k ≤ 20))
          congr 1 <;> rw [decide_eq_decide] <;> omega
      · intro h
        rw [lastD, if_pos (.inl b2)]
        cases q : numIn e with
        | none =>
          rw [q] at h
          simp [wI] at h
        | some k => rfl
    · by_cases b3 : b = wHelp
      · have ih := in_strsT (x := e) (xs := hows)
        have e21 : t__law_read_21 (EV m x (five a b c d e) (some (.int n)) (some (.str e)) none none) = .nx (EV m x (five a b c d e) (some (.int n)) (some (.str e)) (some (.bl (decide (e ∈ hows)))) none) := by
          rw [t__law_read_21]
          have nf : ¬ (wHelp = wFin) := fun z => wn.2.2.1 z.symm
          have nc : ¬ (wHelp = wCost) := fun z => wn.2.2.2.2.1 z.symm
          generalize decide (e ∈ hows) = q at *
          rw [b3] at i1 i2 i4
          simp only [List.map_cons, List.map_nil] at ih
          simp [i1, i2, i4, b3, nf, nc, t__law_read_20, t__law_read_19, t__law_read_16, ih, z2, -opIx_l]
        have c1 : ¬ (b = wCost ∨ b = wVoid) := by rw [b3]; decide +kernel
        have lD : lastD b e = .str e := by rw [lastD, if_neg c1, if_neg b1]
        refine ⟨_, .non, _, _, e21, ?_, fun _ => lD.symm, rfl⟩
        rw [lD, told, if_neg b1, if_neg b2, if_neg (fun z => wn.2.2.2.2.2.1 (z.symm.trans b3))]
        have : b ∈ words4 := by rw [b3]; simp
        rw [decide_eq_true this, Bool.true_and]
        rfl
      · have ic := in_strsT (x := e) (xs := codes)
        have e21 : t__law_read_21 (EV m x (five a b c d e) (some (.int n)) (some (.str e)) none none) = .nx (EV m x (five a b c d e) (some (.int n)) (some (.str e)) (some (.bl (decide (b = wCode) && decide (e ∈ codes)))) (some (.tup (codes.map .str)))) := by
          have j1 : ∀ E : D, t__law_read_21 (EV m x (five a b c d e) (some (.int n)) (some E) none none) = t__law_read_20 (EV m x (five a b c d e) (some (.int n)) (some E) none none) := fun E => by
            rw [t__law_read_21]
            simp [i1, b1, -opIx_l]
          have j2 : ∀ E : D, t__law_read_20 (EV m x (five a b c d e) (some (.int n)) (some E) none none) = t__law_read_19 (EV m x (five a b c d e) (some (.int n)) (some E) none none) := fun E => by
            rw [t__law_read_20]
            simp [i1, b2, -opIx_l]
          have j3 : ∀ E : D, t__law_read_19 (EV m x (five a b c d e) (some (.int n)) (some E) none none) = (sThen t__law_read_17 t__law_read_18) (EV m x (five a b c d e) (some (.int n)) (some E) none none) := fun E => by
            rw [t__law_read_19]
            simp [i1, b3, -opIx_l]
          have cc : (D.tup (codes.map .str)).frz = .tup (codes.map .str) := by rw [D.frz, frzL_strs]
          have e17 : ∀ T : D, t__law_read_17 (EV m x (five a b c d e) (some (.int n)) (some T) none none) = .nx (EV m x (five a b c d e) (some (.int n)) (some T) none (some (.tup (codes.map .str)))) := fun T => by
            simp only [List.map_cons, List.map_nil] at cc ⊢
            simp [t__law_read_17, z7]
          have e18 : t__law_read_18 (EV m x (five a b c d e) (some (.int n)) (some (.str e)) none (some (.tup (codes.map .str)))) = .nx (EV m x (five a b c d e) (some (.int n)) (some (.str e)) (some (.bl (decide (b = wCode) && decide (e ∈ codes)))) (some (.tup (codes.map .str)))) := by
            generalize decide (e ∈ codes) = q at *
            generalize D.tup (codes.map .str) = C at *
            by_cases k : b = wCode
            · rw [k] at i1
              simp [t__law_read_18, i1, k, ic, -opIx_l]
            · simp [t__law_read_18, i1, k, ic, -opIx_l]
          rw [j1, j2, j3, sThen_ap, e17, andThen_nx, e18]
        refine ⟨_, .non, _, _, e21, ?_, ?_, rfl⟩
        · by_cases k : b = wCode
          · have c1 : ¬ (b = wCost ∨ b = wVoid) := by rw [k]; decide +kernel
            have lD : lastD b e = .str e := by rw [lastD, if_neg c1, if_neg b1]
            rw [lD, told, if_neg b1, if_neg b2, if_pos k]
            have : b ∈ words4 := by rw [k]; simp
            rw [decide_eq_true this, decide_eq_true k, Bool.true_and, Bool.true_and]
            rfl
          · have : b ∉ words4 := by
              simp only [words4, List.mem_cons, List.not_mem_nil, or_false, not_or]
              exact ⟨b1, k, b2, b3⟩
            rw [decide_eq_false this, decide_eq_false k, Bool.false_and, Bool.false_and]
        · intro h
          rw [Bool.and_eq_true] at h
          have k := of_decide_eq_true h.1
          have c1 : ¬ (b = wCost ∨ b = wVoid) := by rw [k]; decide +kernel
          rw [lastD, if_neg c1, if_neg b1]
end
end Lk21
namespace Lk21
open PySem RL RM RG RQ RW RE
open RR (numIn optD timeIn numIn_le)
open RX (wI lwhole_eq lseconds_eq)
section
variable {m : Mt} {nb nr : Nat}
abbrev tail5 : RL.Env → SRes := sThen t__law_read_6 (sThen t__law_read_7 (sThen t__law_read_9 (sThen t__law_read_10 (sThen t__law_read_11 (sThen t__law_read_21 t__law_read_22)))))
theorem r5 (g : Good nb nr m) (hb : nb ≤ 1000) {x a b c d e : Str} (he : e.length ≤ 1000) (ke : PyData.strOk e = true) {n : Int} :
    ∃ ρ, tail5 (EV m x (five a b c d e) (some (.int n)) none none none) = .rt (if (decide (b ∈ words4) && inRace m b (.str c) (.str d) (lastD b e)) = true then .tup [.int n, .str b, .str c, .str d, lastD b e] else .non) ρ := by
  have h3 : 5 ≤ sizeLine := by decide
  obtain ⟨i1, i2, i3, i4⟩ := f_ix (a := a) (b := b) (c := c) (d := d) (e := e)
  simp only [five, List.map_cons, List.map_nil] at i1 i2 i3 i4
  have e6 : t__law_read_6 (EV m x (five a b c d e) (some (.int n)) none none none) = .nx (EV m x (five a b c d e) (some (.int n)) none none none) := by
    rw [t__law_read_6]
    simp
  have e9 : t__law_read_9 (EV m x (five a b c d e) (some (.int n)) none none none) = .nx (EV m x (five a b c d e) (some (.int n)) none none none) := by
    rw [t__law_read_9]
    simp
  have nt := notin_T (o := false) (k := fun r : RcT => r.1) (v := raceD) (xs := m.rs) (s := c)
  rw [tail5, sThen_ap, e6, andThen_nx, sThen_ap]
  by_cases r : c ∈ m.rs.map fun r => r.1
  · rw [decide_eq_true r] at nt
    have e7 : t__law_read_7 (EV m x (five a b c d e) (some (.int n)) none none none) = .nx (EV m x (five a b c d e) (some (.int n)) none none none) := by
      rw [t__law_read_7]
      simp [i2, nt, -opIx_l]
    obtain ⟨x0, hx, hc⟩ := List.mem_map.mp r
    have ir : inRace m b (.str c) (.str d) (lastD b e) = (isIn (.str d) ((sailsOf m x0.2.1).map fun b => b.1) && told x0 b (lastD b e)) := by
      rw [inRace, ← hc]
      exact any_one g hx
    have ix := ix_T (o := false) (v := raceD) hx g.rnd
    rw [hc] at ix
    have bn := g.bn
    have ed := entered_due (m := m) (by omega) (r := x0)
    rw [← same_entered] at ed
    have en := (by
      have := in_strs (o := true) (x := d) (xs := (sailsOf m x0.2.1).map fun b => b.1)
      rw [List.map_map] at this
      exact this : oIn (.str d) (.lst true ((sailsOf m x0.2.1).map fun b : BtT => D.str b.1)) = some (.bl (decide (d ∈ (sailsOf m x0.2.1).map fun b => b.1))))
    have en2 : oNotIn (.str d) (.lst true ((sailsOf m x0.2.1).map fun b : BtT => D.str b.1)) = some (.bl (!decide (d ∈ (sailsOf m x0.2.1).map fun b => b.1))) := by
      obtain ⟨bb, hbb, e1⟩ := Option.map_eq_some_iff.mp en
      cases e1
      show (fIn _ _).map _ = _
      rw [hbb]
      rfl
    have ii : isIn (.str d) ((sailsOf m x0.2.1).map fun b => b.1) = decide (d ∈ (sailsOf m x0.2.1).map fun b => b.1) := rfl
    rw [e7, andThen_nx, sThen_ap, e9, andThen_nx, sThen_ap, ir, ii]
    by_cases dn : d ∈ (sailsOf m x0.2.1).map fun b => b.1
    · rw [decide_eq_true dn] at en2 ⊢
      have e10 : t__law_read_10 (EV m x (five a b c d e) (some (.int n)) none none none) = .nx (EV m x (five a b c d e) (some (.int n)) none none none) := by
        generalize D.lst true ((sailsOf m x0.2.1).map fun b : BtT => D.str b.1) = S at *
        rw [t__law_read_10]
        simp [i2, i3, ix, ed, en2, raceD_clean, raceD_frz, -opIx_l]
      have e11 : t__law_read_11 (EV m x (five a b c d e) (some (.int n)) none none none) = .nx (EV m x (five a b c d e) (some (.int n)) (some (.str e)) none none) := by
        rw [t__law_read_11]
        simp [i4, -opIx_l]
      obtain ⟨t, cd, cd', gd, e21, hg, ht, tc⟩ := t_good g hx hc (a := a) (b := b) (d := d) he ke (n := n)
      rw [e10, andThen_nx, sThen_ap, e11, andThen_nx, sThen_ap, e21, andThen_nx, Bool.true_and, ← hg]
      refine ⟨EV m x (five a b c d e) (some (.int n)) (some t) (some (.bl gd)) cd', ?_⟩
      cases gd with
      | true =>
        rw [if_pos rfl, ← ht rfl]
        simp [t__law_read_22, i1, i2, i3, h3, tc, -opIx_l]
      | false =>
        simp [t__law_read_22]
    · rw [decide_eq_false dn] at en2 ⊢
      have e10 : t__law_read_10 (EV m x (five a b c d e) (some (.int n)) none none none) = .rt .non (EV m x (five a b c d e) (some (.int n)) none none none) := by
        generalize D.lst true ((sailsOf m x0.2.1).map fun b : BtT => D.str b.1) = S at *
        rw [t__law_read_10]
        simp [i2, i3, ix, ed, en2, raceD_clean, raceD_frz, -opIx_l]
      rw [e10]
      refine ⟨EV m x (five a b c d e) (some (.int n)) none none none, ?_⟩
      rw [Bool.false_and, Bool.and_false]
      rfl
  · rw [decide_eq_false r] at nt
    have e7 : t__law_read_7 (EV m x (five a b c d e) (some (.int n)) none none none) = .rt .non (EV m x (five a b c d e) (some (.int n)) none none none) := by
      rw [t__law_read_7]
      simp [i2, nt, -opIx_l]
    have ir : inRace m b (.str c) (.str d) (lastD b e) = false := by
      rw [inRace, List.any_eq_false]
      intro z hz
      have : ¬ z.1 = c := fun k => r (List.mem_map.mpr ⟨z, hz, k⟩)
      simp [this]
    rw [e7, ir, Bool.and_false]
    exact ⟨_, rfl⟩
theorem lread_eq (g : Good nb nr m) (hb : nb ≤ 1000) (hr : nr ≤ 1000) {x : Str} (hx : x.length ≤ 1000) (hk : PyData.strOk x = true) : f__law_read [m.D, .str x] = .ok (if isP m (.tup (thingsOf (wds x))) = true then .tup (thingsOf (wds x)) else .non) [] := by
  have sp' := split_wds (x := x) (by omega)
  have hl : ∀ w ∈ wds x, w.length ≤ 1000 := fun w hw => Nat.le_trans (wds_len hw) hx
  have hok : ∀ w ∈ wds x, PyData.strOk w = true := fun w hw => wds_ok hw hk
  have ne := wds_ne x
  have e0 : t__law_read_0 [some m.D, some (.str x), none, none, none, none, none, none, none] = .nx [some m.D, some (.str x), some (.lst false ((wds x).map .str)), none, none, none, none, none, none] := by
    simp [t__law_read_0, sp', D.frz, frzL_strs]
  rw [f__law_read, runDef_ap, show entry 9 [m.D, .str x] = [some m.D, some (.str x), none, none, none, none, none, none, none] from rfl]
  unfold b__law_read
  rw [sThen_ap, e0, andThen_nx, sThen_ap, q_e2 g hr, andThen_nx, sThen_ap]
  generalize wds x = ws at *
  obtain ⟨w0, r, rfl⟩ : ∃ w0 r, ws = w0 :: r := by
    cases ws with
    | nil => exact absurd rfl ne
    | cons a b => exact ⟨a, b, rfl⟩
  have lw := lwhole_eq (hl w0 (by simp)) (hok w0 (by simp))
  rw [← same_whole] at lw
  have i0 : opIx (.lst false ((w0 :: r).map .str)) (.int 0) = some (.str w0) := ixw (by rw [atI_0])
  have e3 : t__law_read_3 (EV m x (w0 :: r) none none none none) = .nx (EV m x (w0 :: r) (some (.int (wI (numIn w0)))) none none none) := by
    rw [List.map_cons] at i0
    simp [t__law_read_3, i0, lw, -opIx_l]
  rw [e3, andThen_nx, sThen_ap, q_e4]
  have tl := things_len (ws := w0 :: r)
  by_cases c : 1 ≤ wI (numIn w0) ∧ ((w0 :: r).length = 3 ∨ (w0 :: r).length = 5)
  · rw [if_pos c, andThen_nx]
    obtain ⟨n, hn, hn1, hn2⟩ : ∃ n : Int, numIn w0 = some n ∧ 1 ≤ n ∧ n ≤ 9999 := by
      cases q : numIn w0 with
      | none => rw [q] at c; simp [wI] at c
      | some n =>
        rw [q] at c
        exact ⟨n, rfl, c.1, (numIn_le q).2⟩
    rw [hn]
    simp only [wI, Option.getD_some]
    have w1 : wh (.int n) 1 9999 = true := by simp [wh, hn1, hn2]
    rcases c.2 with l3 | l5
    · match r, l3 with
      | [b, d], _ =>
        have T : thingsOf [w0, b, d] = [optD (numIn w0), .str b, lastD b d] := things_two (r := [])
        rw [T, hn, show optD (some n) = D.int n from rfl]
        have k := r3 g (x := x) (a := w0) (b := b) (hl d (by simp)) (hok d (by simp)) (n := n)
        rw [k]
        have wn := w_ne
        have P : isP m (.tup [.int n, .str b, lastD b d]) = (if b = wVoid then wh (optD (numIn d)) 1 (n - 1) else if b = wOff then isIn (.str d) (m.rs.map fun r => r.1) else false) := by
          show (wh (.int n) 1 9999 && _) = _
          rw [w1, Bool.true_and]
          by_cases v : b = wVoid
          · rw [if_pos v, if_pos v, lastD, if_pos (.inr v)]
            simp
          · rw [if_neg v, if_neg v]
            by_cases o : b = wOff
            · have n1 : ¬ (b = wCost ∨ b = wVoid) := by rw [o]; decide +kernel
              have n2 : ¬ b = wFin := by rw [o]; decide +kernel
              rw [if_pos o, if_pos o, lastD, if_neg n1, if_neg n2]
              simp
            · rw [if_neg o, if_neg o]
        show FR.ok (if _ then _ else _) [] = _
        rw [← P]
        congr 1
        cases hq : isP m (.tup [.int n, .str b, lastD b d]) with
        | false => simp
        | true =>
          rw [P] at hq
          rw [if_pos rfl, if_pos rfl]
          congr 3
          by_cases v : b = wVoid
          · rw [if_pos v, lastD, if_pos (.inr v)]
          · rw [if_neg v] at hq ⊢
            by_cases o : b = wOff
            · have n1 : ¬ (b = wCost ∨ b = wVoid) := by rw [o]; decide +kernel
              have n2 : ¬ b = wFin := by rw [o]; decide +kernel
              rw [lastD, if_neg n1, if_neg n2]
            · rw [if_neg o] at hq
              cases hq
    · match r, l5 with
      | [b, d, e, f], _ =>
        have T : thingsOf [w0, b, d, e, f] = [optD (numIn w0), .str b, .str d, .str e, lastD b f] := things_two (r := [d, e])
        rw [T, hn, show optD (some n) = D.int n from rfl]
        obtain ⟨ρ, k⟩ := r5 g hb (x := x) (a := w0) (b := b) (c := d) (d := e) (hl f (by simp)) (hok f (by simp)) (n := n)
        have P : isP m (.tup [.int n, .str b, .str d, .str e, lastD b f]) = (decide (b ∈ words4) && inRace m b (.str d) (.str e) (lastD b f)) := by
          show (wh (.int n) 1 9999 && _) = _
          rw [w1, Bool.true_and]
          have wn := w_no
          by_cases v : b = wVoid
          · rw [if_pos v, decide_eq_false (p := b ∈ words4) (by rw [v]; exact wn.1)]
            simp
          · rw [if_neg v]
            by_cases o : b = wOff
            · rw [if_pos o, decide_eq_false (p := b ∈ words4) (by rw [o]; exact wn.2)]
              simp
            · rw [if_neg o]
        show endF [] (tail5 _) = _
        rw [k, P]
        rfl
  · rw [if_neg c]
    have : isP m (.tup (thingsOf (w0 :: r))) = false := by
      by_cases c2 : (w0 :: r).length = 3 ∨ (w0 :: r).length = 5
      · have c1 : ¬ 1 ≤ wI (numIn w0) := fun z => c ⟨z, c2⟩
        have w : wh (optD (numIn w0)) 1 9999 = false := by
          cases q : numIn w0 with
          | none => rfl
          | some n =>
            rw [q] at c1
            simp only [wI, Option.getD_some] at c1
            show (decide (1 ≤ n) && _) = false
            rw [decide_eq_false c1, Bool.false_and]
        obtain ⟨b, d, s, rfl⟩ : ∃ b d s, r = b :: d :: s := by
          match r, c2 with
          | [], c2 => simp at c2
          | [a], c2 => simp at c2
          | a :: b :: s, _ => exact ⟨a, b, s, rfl⟩
        rcases ends (d :: s) with h | ⟨s', l, h⟩
        · cases h
        · rw [h, things_two]
          cases s' with
          | nil => exact isP_a w
          | cons y ys => exact isP_a w
      · exact isP_35 (by rw [tl]; exact fun z => c2 (.inl z)) (by rw [tl]; exact fun z => c2 (.inr z))
    rw [this]
    rfl
end
end Lk21
namespace Lk21
open PySem RL RM RG RQ RW RE
open RR (Wd nm_wd)
def Tx (c : Nat) (x : Str) : Prop := x.length ≤ c ∧ PyData.strOk x = true
theorem Tx.le {c d : Nat} {x : Str} (h : Tx c x) (l : c ≤ d) : Tx d x := ⟨Nat.le_trans h.1 l, h.2⟩
theorem wd_tx {x : Str} (h : Wd x) : Tx 100 x := ⟨h.len, h.strOk⟩
theorem strOk_tl {x : Str} : PyData.strOk x = (TL.tl x).all fun c => decide (c < 0x110000) := by
  unfold PyData.strOk
  rw [← Array.all_toList]
theorem join_tx {ws : List Str} {o : Bool} (h : ∀ w ∈ ws, Tx 100 w) (l : ws.length ≤ 8) : fJoin sp (.lst o (ws.map .str)) = some (.str (Txt.join sp ws)) ∧ Tx 1000 (Txt.join sp ws) := by
  have j : TL.tl (Txt.join sp ws) = TL.joinL [32] (ws.map TL.tl) := by
    rw [TL.join_eq, TL.tl_join, show TL.tl sp = [32] from by decide +kernel]
  refine ⟨RV.join_strs (RV.joinOk_of (c := 100) (n := 8) (fun y hy => (h y hy).1) l (by decide +kernel)), ?_, ?_⟩
  · have : ∀ {ws : List (List Nat)} {c : Nat}, (∀ x ∈ ws, x.length ≤ c) → (TL.joinL [32] ws).length ≤ (c + 1) * ws.length := fun {ws c} h => by
      induction ws with
      | nil => simp [TL.joinL]
      | cons x xs ih =>
        have hx := h x (by simp)
        have ih := ih fun y hy => h y (List.mem_cons_of_mem _ hy)
        cases xs with
        | nil => simp [TL.joinL]; omega
        | cons y ys =>
          simp only [TL.joinL, List.length_append, List.length_cons, List.length_nil] at ih ⊢
          rw [Nat.mul_add] at ih ⊢
          rw [Nat.mul_add]
          omega
    have b := this (ws := ws.map TL.tl) (c := 100) fun x hx => by
      obtain ⟨w, hw, rfl⟩ := List.mem_map.mp hx
      exact (h w hw).1
    rw [← j, List.length_map] at b
    show (TL.tl (Txt.join sp ws)).length ≤ 1000
    exact Nat.le_trans b (Nat.le_trans (Nat.mul_le_mul_left _ l) (by decide))
  · rw [strOk_tl, List.all_eq_true]
    intro c hc
    rw [j] at hc
    rcases RR.joinL_mem hc with z | ⟨w, hw, z⟩
    · simp only [List.mem_cons, List.not_mem_nil, or_false] at z
      simp [z]
    · obtain ⟨v, hv, rfl⟩ := List.mem_map.mp hw
      have := (h v hv).2
      rw [strOk_tl, List.all_eq_true] at this
      exact this c z
theorem cat_tx {a b : Nat} {x y : Str} (h : Tx a x) (h' : Tx b y) : Tx (a + b) (x ++ y) := by
  refine ⟨?_, ?_⟩
  · have : (TL.tl (x ++ y)).length = (TL.tl x).length + (TL.tl y).length := by rw [TL.tl_append, List.length_append]
    have h1 := h.1
    have h2 := h'.1
    show (TL.tl (x ++ y)).length ≤ _
    rw [this]
    show (TL.tl x).length + (TL.tl y).length ≤ _
    exact Nat.add_le_add h1 h2
  · have a1 := h.2
    have a2 := h'.2
    rw [strOk_tl] at a1 a2 ⊢
    rw [TL.tl_append, List.all_append, a1, a2]
    rfl
theorem fives {ws : List Str} {o : Bool} : fLenX (.lst o (ws.map .str)) = some (.int (ws.length : Int)) := by simp
section
variable {m : Mt} {nb nr : Nat}
abbrev poolA : List Str := ["finish", "code", "cost", "help", "off", "void", "0"]
abbrev poolB : List Str := ["1", "01", "20", "21", "9999", "10000", "0:00:00", "99:59:59", "100:00:00", "00:00:00", "1:60:00"]
abbrev poolC : List Str := ["0:00:60", "359999", "barred", "away", "Away", "every", "ahead", "all", "", "-1", "#", "\t", "x y"]
def pool0 (m : Mt) : List Str := m.cs.map (fun c => c.1) ++ m.bs.map (fun b => b.1) ++ m.rs.map (fun r => r.1)
def pool (m : Mt) : List Str := pool0 m ++ poolA ++ poolB ++ poolC
theorem pool_tx (g : Good nb nr m) : ∀ w ∈ pool m, Tx 100 w := by
  have k : ∀ w ∈ poolA ++ poolB ++ poolC, w.length ≤ 100 ∧ PyData.strOk w = true := by decide +kernel
  intro w hw
  have hw' : w ∈ pool0 m ∨ w ∈ poolA ++ poolB ++ poolC := by
    simp only [pool, List.append_assoc] at hw ⊢
    exact List.mem_append.mp hw
  rcases hw' with z | z
  · simp only [pool0, List.mem_append, List.mem_map] at z
    rcases z with (⟨c, hc, rfl⟩ | ⟨c, hc, rfl⟩) | ⟨c, hc, rfl⟩
    · exact wd_tx (nm_wd (g.cnm c hc))
    · exact wd_tx (nm_wd (g.bnm c hc))
    · exact wd_tx (nm_wd (g.rnm c hc))
  · exact k w z
theorem pool0_len (g : Good nb nr m) (hb : nb ≤ 100) (hr : nr ≤ 100) : (pool0 m).length ≤ 300 := by
  have := g.c6
  have := g.bn
  have := g.rn
  simp only [pool0, List.length_append, List.length_map]
  omega
abbrev EB (m : Mt) (x : Str) (c : Int) (ws mo at_ po wo spo si : Option D) : RL.Env := [some m.D, some (.str x), some (.int c), ws, mo, at_, po, wo, spo, si, none]
theorem cl_s (ws : List Str) : cleanL (ws.map D.str) = true := cl_strs ws
theorem b_pool0 (g : Good nb nr m) (hb : nb ≤ 100) (hr : nr ≤ 100) {x : Str} {c : Int} {ws mo at_ : Option D} : l__law_bent_3 (EB m x c ws mo at_ none none none none) = .ok (.lst true ((pool0 m).map .str)) := by
  have bn := g.bn
  have rn := g.rn
  have c6 := g.c6
  have i0 : opIx m.D (.int 0) = some (.tux (m.cs.map clD)) := rfl
  have i1 : opIx m.D (.int 1) = some (.tup (m.bs.map boatD)) := rfl
  have i3 : opIx m.D (.int 3) = some (.tup (m.rs.map raceD)) := rfl
  have cc := cleanL_of clD_clean m.cs
  have cb := cleanL_of boatD_clean m.bs
  have cr := cleanL_of raceD_clean m.rs
  have a1 := opAddA_t cc cb (by simp only [List.length_map]; unfold sizeLine; omega)
  have cab : cleanL (m.cs.map clD ++ m.bs.map boatD) = true := by simp [cc, cb]
  have a2 := opAddA_t cab cr (by simp only [List.length_map, List.length_append]; unfold sizeLine; omega)
  have call : cleanL (m.cs.map clD ++ m.bs.map boatD ++ m.rs.map raceD) = true := by simp [cc, cb, cr]
  refine (sLc_ok (ds := m.cs.map clD ++ m.bs.map boatD ++ m.rs.map raceD) (es := (pool0 m).map .str) ?_ ?_ ?_)
  · have it : iterD (.tup (m.cs.map clD ++ m.bs.map boatD ++ m.rs.map raceD)) = some (m.cs.map clD ++ m.bs.map boatD ++ m.rs.map raceD) := iterD_t call
    generalize m.cs.map clD ++ m.bs.map boatD ++ m.rs.map raceD = L at *
    generalize m.cs.map clD ++ m.bs.map boatD = L2 at *
    generalize m.cs.map clD = L3 at *
    generalize m.bs.map boatD = L4 at *
    generalize m.rs.map raceD = L5 at *
    simp [i0, i1, i3, a1, a2, it]
  · simp only [List.length_map, List.length_append]
    unfold sizeLine
    omega
  · have run : ∀ {α : Type} {f : α → D} {k : α → Str} {xs : List α} {ys : List D} {zs : List D}, (∀ a, opIx (f a) (.int 0) = some (.str (k a))) → lcRun (lcOne (.nm 10) [10] sYes (sCl (sIx (sVarB 10) (sC (.int 0)))) (EB m x c ws mo at_ none none none none)) ys = some zs → lcRun (lcOne (.nm 10) [10] sYes (sCl (sIx (sVarB 10) (sC (.int 0)))) (EB m x c ws mo at_ none none none none)) (xs.map f ++ ys) = some (xs.map (fun a => .str (k a)) ++ zs) := fun {α f k xs ys zs} hf h => by
      induction xs with
      | nil => exact h
      | cons a xs ih =>
        rw [List.map_cons, List.cons_append, lcRun]
        have : lcOne (.nm 10) [10] sYes (sCl (sIx (sVarB 10) (sC (.int 0)))) (EB m x c ws mo at_ none none none none) (f a) = .ok (some (.str (k a))) := by
          simp [lcOne, wipeE, Tg.set, hf a]
        rw [this]
        simp [ih]
    have e : (pool0 m).map D.str = m.cs.map (fun c => D.str c.1) ++ (m.bs.map (fun b => D.str b.1) ++ (m.rs.map (fun r => D.str r.1) ++ [])) := by
      simp [pool0, List.map_append]
      rfl
    rw [e, List.append_assoc]
    refine run (k := fun c : ClT => c.1) (fun _ => rfl) (run (k := fun c : BtT => c.1) (fun _ => rfl) ?_)
    have := run (f := raceD) (k := fun c : RcT => c.1) (xs := m.rs) (ys := []) (zs := []) (fun _ => rfl) rfl
    simpa using this
theorem b_pool (g : Good nb nr m) (hb : nb ≤ 100) (hr : nr ≤ 100) {x : Str} {c : Int} {ws mo at_ : Option D} :
    (sThen t__law_bent_4 (sThen t__law_bent_5 t__law_bent_6)) (EB m x c ws mo at_ none none none none) = .nx (EB m x c ws mo at_ (some (.lst false ((pool m).map .str))) none none none) := by
  have l0 := b_pool0 g hb hr (x := x) (c := c) (ws := ws) (mo := mo) (at_ := at_)
  have pl := pool0_len g hb hr
  have ad : ∀ {o : Bool} {xs ys : List Str}, xs.length + ys.length ≤ 1000 → opAddA (.lst o (xs.map .str)) (.lst true (ys.map .str)) = some (.lst true ((xs ++ ys).map .str)) := fun {o xs ys} h => by
    rw [List.map_append]
    exact opAdd_l (o := o) (o' := true) (cl_s _) (cl_s _) (by simp only [List.length_map]; unfold sizeLine; omega)
  have z7 : 7 ≤ sizeLine := by decide
  have z11 : 11 ≤ sizeLine := by decide
  have z13 : 13 ≤ sizeLine := by decide
  have fz : ∀ {o : Bool} {xs : List Str}, (D.lst o (xs.map .str)).frz = .lst false (xs.map .str) := fun {o xs} => by rw [D.frz, frzL_strs]
  have a1 := ad (o := true) (xs := pool0 m) (ys := poolA) (by simp; omega)
  have a2 := ad (o := false) (xs := pool0 m ++ poolA) (ys := poolB) (by simp; omega)
  have a3 := ad (o := false) (xs := pool0 m ++ poolA ++ poolB) (ys := poolC) (by simp; omega)
  have f1 := fz (o := true) (xs := pool0 m ++ poolA)
  have f2 := fz (o := true) (xs := pool0 m ++ poolA ++ poolB)
  have f3 := fz (o := true) (xs := pool m)
  have s7 : ∀ ρ, (sLst (sCons (sC (.str "finish")) (sCons (sC (.str "code")) (sCons (sC (.str "cost")) (sCons (sC (.str "help")) (sCons (sC (.str "off")) (sCons (sC (.str "void")) (sCons (sC (.str "0")) sNil)))))))) ρ = .ok (.lst true (poolA.map .str)) := fun ρ => by simp [z7]
  have s11 : ∀ ρ, (sLst (sCons (sC (.str "1")) (sCons (sC (.str "01")) (sCons (sC (.str "20")) (sCons (sC (.str "21")) (sCons (sC (.str "9999")) (sCons (sC (.str "10000")) (sCons (sC (.str "0:00:00")) (sCons (sC (.str "99:59:59")) (sCons (sC (.str "100:00:00")) (sCons (sC (.str "00:00:00")) (sCons (sC (.str "1:60:00")) sNil)))))))))))) ρ = .ok (.lst true (poolB.map .str)) := fun ρ => by simp [z11]
  have s13 : ∀ ρ, (sLst (sCons (sC (.str "0:00:60")) (sCons (sC (.str "359999")) (sCons (sC (.str "barred")) (sCons (sC (.str "away")) (sCons (sC (.str "Away")) (sCons (sC (.str "every")) (sCons (sC (.str "ahead")) (sCons (sC (.str "all")) (sCons (sC (.str "")) (sCons (sC (.str "-1")) (sCons (sC (.str "#")) (sCons (sC (.str "\t")) (sCons (sC (.str "x y")) sNil)))))))))))))) ρ = .ok (.lst true (poolC.map .str)) := fun ρ => by simp [z13]
  have e4 : t__law_bent_4 (EB m x c ws mo at_ none none none none) = .nx (EB m x c ws mo at_ (some (.lst false ((pool0 m ++ poolA).map .str))) none none none) := by
    rw [t__law_bent_4, sAsg_ap, s2_ap, l0, s7, bind_ok, bind_ok, a1, opt_some, stm_ok]
    show put (Tg.set (.nm 6) (D.frz _) _) = _
    rw [f1]
    rfl
  have e5 : t__law_bent_5 (EB m x c ws mo at_ (some (.lst false ((pool0 m ++ poolA).map .str))) none none none) = .nx (EB m x c ws mo at_ (some (.lst false ((pool0 m ++ poolA ++ poolB).map .str))) none none none) := by
    rw [t__law_bent_5, sAsg_ap, s2_ap, sVarB_ap (d := .lst false ((pool0 m ++ poolA).map .str)) rfl, s11, bind_ok, bind_ok, a2, opt_some, stm_ok]
    show put (Tg.set (.nm 6) (D.frz _) _) = _
    rw [f2]
    rfl
  have e6 : t__law_bent_6 (EB m x c ws mo at_ (some (.lst false ((pool0 m ++ poolA ++ poolB).map .str))) none none none) = .nx (EB m x c ws mo at_ (some (.lst false ((pool m).map .str))) none none none) := by
    rw [t__law_bent_6, sAsg_ap, s2_ap, sVarB_ap (d := .lst false ((pool0 m ++ poolA ++ poolB).map .str)) rfl, s13, bind_ok, bind_ok, a3, opt_some, stm_ok]
    show put (Tg.set (.nm 6) (D.frz (.lst true ((pool m).map .str))) _) = _
    rw [f3]
    rfl
  rw [sThen_ap, e4, andThen_nx, sThen_ap, e5, andThen_nx, e6]
theorem at_in {α : Type} {xs : List α} {k : Int} (h : 0 ≤ k) (h2 : k < xs.length) : ∃ x, L2.atI xs k = some x ∧ x ∈ xs := by
  obtain ⟨j, rfl⟩ := Int.eq_ofNat_of_zero_le h
  have hj : j < xs.length := by omega
  refine ⟨xs[j], ?_, List.getElem_mem hj⟩
  unfold L2.atI L2.ixN
  rw [if_pos (by omega), if_pos (by omega)]
  simp [hj]
theorem b_word (g : Good nb nr m) {x : Str} {c mo : Int} {ws at_ : Option D} : ∃ w, Tx 100 w ∧ t__law_bent_7 (EB m x c ws (some (.int mo)) at_ (some (.lst false ((pool m).map .str))) none none none) = .nx (EB m x c ws (some (.int mo)) at_ (some (.lst false ((pool m).map .str))) (some (.str w)) none none) := by
  have l0 : 0 < (pool m).length := by
    simp only [pool, List.length_append]
    show 0 < _ + 7 + 11 + 13
    omega
  have ln := fives (ws := pool m) (o := false)
  obtain ⟨L, hL⟩ : ∃ L : Int, L = ((pool m).length : Int) := ⟨_, rfl⟩
  have hL0 : 0 < L := by omega
  have q1 := fdiv_pos' (i := mo) (j := 8) (by decide) (by decide +kernel)
  have q2 := mod_pos' (i := mo / 8) (j := L) hL0
  have b := RN.mod_in (mo / 8) hL0
  obtain ⟨w, hw, hm⟩ := at_in (xs := pool m) (k := mo / 8 % L) b.1 (by omega)
  have ix := ixw (o := false) hw
  refine ⟨w, pool_tx g w hm, ?_⟩
  rw [← hL] at ln
  generalize mo / 8 % L = K at *
  generalize mo / 8 = M at *
  simp [t__law_bent_7, q1, ln, q2, ix, -opIx_l, -List.map_append]
end
end Lk21
namespace Lk21
open PySem RL RM RG RQ RW RE
open RR (Wd nm_wd)
theorem cut_map {α β : Type} {f : α → β} {xs : List α} {lo hi : Option Int} : RL.cutL (xs.map f) lo hi = (RL.cutL xs lo hi).map f := by
  simp [RL.cutL]
theorem sl_s {o : Bool} {ws : List Str} {lo hi : Option Int} : opSl (.lst o (ws.map .str)) lo hi = some (.lst true ((RL.cutL ws lo hi).map .str)) := by
  rw [opSl_l (cl_s _), cut_map]
theorem ad_s {o o' : Bool} {xs ys : List Str} (h : xs.length + ys.length ≤ 1000) : opAddA (.lst o (xs.map .str)) (.lst o' (ys.map .str)) = some (.lst true ((xs ++ ys).map .str)) := by
  rw [List.map_append]
  exact opAdd_l (o := o) (o' := o') (cl_s _) (cl_s _) (by simp only [List.length_map]; unfold sizeLine; omega)
theorem cutS_tx {c : Nat} {x : Str} {lo hi : Option Int} (h : Tx c x) : Tx c (L2.cutS x lo hi) := by
  refine ⟨Nat.le_trans ?_ h.1, ?_⟩
  · unfold L2.cutS Str.length
    simp only [List.size_toArray, List.length_take, List.length_drop, Array.length_toList]
    omega
  · have := h.2
    rw [strOk_tl, List.all_eq_true] at this ⊢
    intro z hz
    have hz' : z ∈ x.cps.toList := List.mem_of_mem_drop (List.mem_of_mem_take hz)
    exact this z hz'
theorem sl_t {x : Str} {lo hi : Option Int} (h : x.length ≤ 1000) : opSl (.str x) lo hi = some (.str (L2.cutS x lo hi)) := by
  show (if _ then _ else _) = _
  rw [if_pos (by unfold sizeLine; omega)]
section
variable {m : Mt} {nb nr : Nat}
abbrev E8 (m : Mt) (x : Str) (c : Int) (W : List Str) (mo at_ : Int) (P : List Str) (w : Str) : RL.Env := EB m x c (some (.lst false (W.map .str))) (some (.int mo)) (some (.int at_)) (some (.lst false (P.map .str))) (some (.str w)) none none
theorem mod8 {c : Int} : opMod (.int c) (.int 8) = some (.int (c % 8)) := mod_pos' (by decide)
@[simp] theorem addI {i j : Int} : opAddA (.int i) (.int j) = some (.int (i + j)) := rfl
theorem sl_to {o : Bool} {ws : List Str} {k : Nat} : opSl (.lst o (ws.map .str)) none (some (k : Int)) = some (.lst true ((ws.take k).map .str)) := by
  rw [sl_s, cut_0n]
theorem sl_fr {o : Bool} {ws : List Str} {k : Nat} : opSl (.lst o (ws.map .str)) (some (k : Int)) none = some (.lst true ((ws.drop k).map .str)) := by
  rw [sl_s, cut_n0]
theorem b_9 {x w : Str} {c mo : Int} {k : Nat} {W P : List Str} (h : ∀ w ∈ W, Tx 100 w) (l : W.length ≤ 5) :
    (c % 8 = 0 ∧ ∃ y, Tx 1000 y ∧ t__law_bent_9 (E8 m x c W mo k P w) = .rt (.str y) (E8 m x c W mo k P w)) ∨ (c % 8 ≠ 0 ∧ t__law_bent_9 (E8 m x c W mo k P w) = .nx (E8 m x c W mo k P w)) := by
  have q := mod8 (c := c)
  by_cases c0 : c % 8 = 0
  · refine .inl ⟨c0, ?_⟩
    have s1 := sl_to (o := false) (ws := W) (k := k)
    have s2 := sl_fr (o := false) (ws := W) (k := k + 1)
    rw [show ((k + 1 : Nat) : Int) = (k : Int) + 1 by omega] at s2
    have l1 := List.length_take_le k W
    have l2 : (W.drop (k + 1)).length ≤ W.length := by rw [List.length_drop]; omega
    have t1 : ∀ w ∈ W.take k, Tx 100 w := fun w hw => h w (List.mem_of_mem_take hw)
    have t2 : ∀ w ∈ W.drop (k + 1), Tx 100 w := fun w hw => h w (List.mem_of_mem_drop hw)
    have lt : (W.take k ++ W.drop (k + 1)).length ≤ 8 := by rw [List.length_append, List.length_take, List.length_drop]; omega
    generalize W.take k = A at *
    generalize W.drop (k + 1) = B at *
    have a := ad_s (o := true) (o' := true) (xs := A) (ys := B) (by rw [List.length_append] at lt; omega)
    obtain ⟨j, jt⟩ := join_tx (ws := A ++ B) (o := true) (fun w hw => (List.mem_append.mp hw).elim (t1 w) (t2 w)) lt
    refine ⟨_, jt, ?_⟩
    rw [t__law_bent_9]
    simp [q, c0, t__law_bent_8, s1, s2, a, j, -opSl_l, -List.map_append]
  · refine .inr ⟨c0, ?_⟩
    rw [t__law_bent_9]
    simp [q, c0]
theorem b_11 {x w : Str} {c mo : Int} {k : Nat} {W P : List Str} (h : ∀ w ∈ W, Tx 100 w) (l : W.length ≤ 5) (hw : Tx 100 w) :
    (c % 8 = 1 ∧ ∃ y, Tx 1000 y ∧ t__law_bent_11 (E8 m x c W mo k P w) = .rt (.str y) (E8 m x c W mo k P w)) ∨ (c % 8 ≠ 1 ∧ t__law_bent_11 (E8 m x c W mo k P w) = .nx (E8 m x c W mo k P w)) := by
  have q := mod8 (c := c)
  have z1 : 1 ≤ sizeLine := by decide
  by_cases c0 : c % 8 = 1
  · refine .inl ⟨c0, ?_⟩
    have s1 := sl_to (o := false) (ws := W) (k := k)
    have s2 := sl_fr (o := false) (ws := W) (k := k)
    have l1 := List.length_take_le k W
    have l2 : (W.drop k).length ≤ W.length := by rw [List.length_drop]; omega
    have t1 : ∀ w ∈ W.take k, Tx 100 w := fun w hw => h w (List.mem_of_mem_take hw)
    have t2 : ∀ w ∈ W.drop k, Tx 100 w := fun w hw => h w (List.mem_of_mem_drop hw)
    have lt : (W.take k ++ [w] ++ W.drop k).length ≤ 8 := by rw [List.length_append, List.length_append, List.length_take, List.length_drop, List.length_singleton]; omega
    generalize W.take k = A at *
    generalize W.drop k = B at *
    have lt' := lt
    rw [List.length_append, List.length_append, List.length_singleton] at lt'
    have a := ad_s (o := true) (o' := true) (xs := A) (ys := [w]) (by rw [List.length_singleton]; omega)
    have a2 := ad_s (o := true) (o' := true) (xs := A ++ [w]) (ys := B) (by rw [List.length_append, List.length_singleton]; omega)
    obtain ⟨j, jt⟩ := join_tx (ws := A ++ [w] ++ B) (o := true) (fun v hv => by
      rcases List.mem_append.mp hv with z | z
      · rcases List.mem_append.mp z with z | z
        · exact t1 v z
        · rw [List.mem_singleton.mp z]; exact hw
      · exact t2 v z) lt
    refine ⟨_, jt, ?_⟩
    rw [show ([w].map D.str) = [D.str w] from rfl] at a
    rw [t__law_bent_11]
    simp [q, c0, t__law_bent_10, s1, s2, a, a2, j, z1, -opSl_l, -List.map_append, -List.append_assoc]
  · refine .inr ⟨c0, ?_⟩
    rw [t__law_bent_11]
    simp [q, c0]
theorem b_13 {x w : Str} {c mo : Int} {k : Nat} {W P : List Str} (h : ∀ w ∈ W, Tx 100 w) (l : W.length ≤ 5) (hw : Tx 100 w) :
    (c % 8 < 5 ∧ ∃ y, Tx 1000 y ∧ t__law_bent_13 (E8 m x c W mo k P w) = .rt (.str y) (E8 m x c W mo k P w)) ∨ (¬ c % 8 < 5 ∧ t__law_bent_13 (E8 m x c W mo k P w) = .nx (E8 m x c W mo k P w)) := by
  have q := mod8 (c := c)
  have z1 : 1 ≤ sizeLine := by decide
  by_cases c0 : c % 8 < 5
  · refine .inl ⟨c0, ?_⟩
    have s1 := sl_to (o := false) (ws := W) (k := k)
    have s2 := sl_fr (o := false) (ws := W) (k := k + 1)
    rw [show ((k + 1 : Nat) : Int) = (k : Int) + 1 by omega] at s2
    have l1 := List.length_take_le k W
    have l2 : (W.drop (k + 1)).length ≤ W.length := by rw [List.length_drop]; omega
    have t1 : ∀ w ∈ W.take k, Tx 100 w := fun w hw => h w (List.mem_of_mem_take hw)
    have t2 : ∀ w ∈ W.drop (k + 1), Tx 100 w := fun w hw => h w (List.mem_of_mem_drop hw)
    have lt : (W.take k ++ [w] ++ W.drop (k + 1)).length ≤ 8 := by rw [List.length_append, List.length_append, List.length_take, List.length_drop, List.length_singleton]; omega
    generalize W.take k = A at *
    generalize W.drop (k + 1) = B at *
    have lt' := lt
    rw [List.length_append, List.length_append, List.length_singleton] at lt'
    have a := ad_s (o := true) (o' := true) (xs := A) (ys := [w]) (by rw [List.length_singleton]; omega)
    have a2 := ad_s (o := true) (o' := true) (xs := A ++ [w]) (ys := B) (by rw [List.length_append, List.length_singleton]; omega)
    obtain ⟨j, jt⟩ := join_tx (ws := A ++ [w] ++ B) (o := true) (fun v hv => by
      rcases List.mem_append.mp hv with z | z
      · rcases List.mem_append.mp z with z | z
        · exact t1 v z
        · rw [List.mem_singleton.mp z]; exact hw
      · exact t2 v z) lt
    refine ⟨_, jt, ?_⟩
    rw [show ([w].map D.str) = [D.str w] from rfl] at a
    rw [t__law_bent_13]
    simp [q, c0, t__law_bent_12, s1, s2, a, a2, j, z1, -opSl_l, -List.map_append, -List.append_assoc]
  · refine .inr ⟨c0, ?_⟩
    rw [t__law_bent_13]
    have : 5 ≤ c % 8 := by omega
    simp [q, c0, this]
abbrev s14 : Str := " 019:abz-#.\t\nA"
theorem s14_len : s14.length = 14 := by decide +kernel
theorem s14_ok : PyData.strOk s14 = true := by decide +kernel
theorem sign_at {r : Int} (h0 : 0 ≤ r) (h : r < 14) : ∃ s : Str, opIx (.str s14) (.int r) = some (.str s) ∧ Tx 1 s := by
  have l : (14 : Int) = s14.cps.toList.length := by
    have := s14_len
    unfold Str.length at this
    simp [this]
  obtain ⟨c, e, hc⟩ := ix_mem (xs := s14.cps.toList) h0 (by omega)
  refine ⟨⟨#[c]⟩, ?_, Nat.le_refl _, ?_⟩
  · show (if s14.length ≤ sizeLine then (L2.atI s14.cps.toList r).map fun c => D.str ⟨#[c]⟩ else none) = _
    rw [if_pos (by rw [s14_len]; decide), e]
    rfl
  · have := s14_ok
    unfold PyData.strOk at this ⊢
    rw [Array.all_eq_true'] at this
    simpa using this c (Array.mem_toList_iff.mp hc)
theorem cutS_tl {x : Str} {lo hi : Option Int} : (L2.cutS x lo hi).cps.toList = RL.cutL x.cps.toList lo hi := by
  unfold L2.cutS RL.cutL
  rw [Array.length_toList]
  rfl
theorem len_to {x : Str} {k : Nat} : (L2.cutS x none (some (k : Int))).length ≤ k ∧ (L2.cutS x none (some (k : Int))).length ≤ x.length := by
  have : (L2.cutS x none (some (k : Int))).length = (L2.cutS x none (some (k : Int))).cps.toList.length := by simp [Str.length]
  rw [this, cutS_tl, cut_0n, List.length_take, Array.length_toList]
  unfold Str.length
  omega
theorem len_fr {x : Str} {k : Nat} : (L2.cutS x (some (k : Int)) none).length = x.length - k := by
  have : (L2.cutS x (some (k : Int)) none).length = (L2.cutS x (some (k : Int)) none).cps.toList.length := by simp [Str.length]
  rw [this, cutS_tl, cut_n0, List.length_drop, Array.length_toList]
  rfl
theorem b_end {x w : Str} {c mo at_ : Int} {W P : List Str} (hx : Tx 505 x) :
    ∃ y ρ, Tx 1000 y ∧ (sThen t__law_bent_14 (sThen t__law_bent_15 t__law_bent_16)) (E8 m x c W mo at_ P w) = .rt (.str y) ρ := by
  have q := mod8 (c := c)
  have ln : fLenX (.str x) = some (.int (x.length : Int)) := by
    show (if x.length ≤ sizeLine then some (D.int x.length) else none) = _
    rw [if_pos (by have := hx.1; unfold sizeLine; omega)]
  obtain ⟨L, hL⟩ : ∃ L : Int, L = (x.length : Int) := ⟨_, rfl⟩
  have hL0 : 0 < L + 1 := by omega
  rw [← hL] at ln
  have q1 := mod_pos' (i := mo) (j := L + 1) hL0
  have q2 := fdiv_pos' (i := mo) (j := 64) (by decide) (by decide +kernel)
  have q3 := mod_pos' (i := mo / 64) (j := 14) (by decide)
  have b3 := RN.mod_in (mo / 64) (b := 14) (by decide)
  obtain ⟨s, hs, ts⟩ := sign_at b3.1 b3.2
  obtain ⟨S0, hS0⟩ : ∃ S0 : Nat, mo % (L + 1) = (S0 : Int) := Int.eq_ofNat_of_zero_le (RN.mod_in mo hL0).1
  generalize mo / 64 % 14 = K at *
  generalize mo / 64 = K2 at *
  rw [hS0] at q1
  have e14 : t__law_bent_14 (E8 m x c W mo at_ P w) = .nx (EB m x c (some (.lst false (W.map .str))) (some (.int mo)) (some (.int at_)) (some (.lst false (P.map .str))) (some (.str w)) (some (.int S0)) none) := by
    simp [t__law_bent_14, ln, q1]
  have e15 : t__law_bent_15 (EB m x c (some (.lst false (W.map .str))) (some (.int mo)) (some (.int at_)) (some (.lst false (P.map .str))) (some (.str w)) (some (.int S0)) none) = .nx (EB m x c (some (.lst false (W.map .str))) (some (.int mo)) (some (.int at_)) (some (.lst false (P.map .str))) (some (.str w)) (some (.int S0)) (some (.str s))) := by
    simp [t__law_bent_15, q2, q3, hs]
  rw [sThen_ap, e14, andThen_nx, sThen_ap, e15, andThen_nx]
  have x1 : x.length ≤ 1000 := by have := hx.1; omega
  have c1 := sl_t (x := x) (lo := none) (hi := some (S0 : Int)) x1
  have c2 := sl_t (x := x) (lo := some ((S0 : Int) + (if decide (c % 8 = 7) = true then 1 else 0))) (hi := none) x1
  have T1 := cutS_tx hx (lo := none) (hi := some (S0 : Int))
  have T2 := cutS_tx hx (lo := some ((S0 : Int) + (if decide (c % 8 = 7) = true then 1 else 0))) (hi := none)
  have n1 := len_to (x := x) (k := S0)
  have n2 : (L2.cutS x (some ((S0 : Int) + (if decide (c % 8 = 7) = true then 1 else 0))) none).length ≤ x.length - S0 := by
    cases decide (c % 8 = 7)
    · have := len_fr (x := x) (k := S0)
      simp only [Bool.false_eq_true, if_false, Int.add_zero]
      omega
    · have := len_fr (x := x) (k := S0 + 1)
      rw [show ((S0 + 1 : Nat) : Int) = (S0 : Int) + 1 by omega] at this
      simp only [if_true]
      omega
  have fi : fInt (.bl (decide (c % 8 = 7))) = some (.int (if decide (c % 8 = 7) = true then 1 else 0)) := rfl
  have eqi : opEq (.int (c % 8)) (.int 7) = some (.bl (decide (c % 8 = 7))) := by simp
  generalize decide (c % 8 = 7) = bq at *
  generalize (if bq = true then (1 : Int) else 0) = U at *
  generalize L2.cutS x none (some (S0 : Int)) = A at *
  generalize L2.cutS x (some ((S0 : Int) + U)) none = B at *
  have a1 : opAddA (.str A) (.str s) = some (.str (A ++ s)) := opAdd_s (by have := T1.1; have := ts.1; unfold sizeLine; omega)
  have a2 : opAddA (.str (A ++ s)) (.str B) = some (.str (A ++ s ++ B)) := opAdd_s (by have := (cat_tx T1 ts).1; have := T2.1; unfold sizeLine; omega)
  refine ⟨A ++ s ++ B, EB m x c (some (.lst false (W.map .str))) (some (.int mo)) (some (.int at_)) (some (.lst false (P.map .str))) (some (.str w)) (some (.int S0)) (some (.str s)), ?_, ?_⟩
  · have hx1 := hx.1
    have hA : Tx (min S0 x.length) A := ⟨by omega, T1.2⟩
    have hB : Tx (x.length - S0) B := ⟨n2, T2.2⟩
    exact (cat_tx (cat_tx hA ts) hB).le (by omega)
  · simp [t__law_bent_16, c1, c2, q, eqi, fi, a1, a2, -opEq_i]
theorem bent_eq (g : Good nb nr m) (hb : nb ≤ 100) (hr : nr ≤ 100) {n k : Int} {p : Pk} (hn : 1 ≤ n) (hn2 : n ≤ 9999) (hk : k ≤ 10000) (h : PkOk m k p) (c : Int) : ∃ y, f__law_bent [m.D, .str (textP (n, p)), .int c] = .ok (.str y) [] ∧ Tx 1000 y := by
  obtain ⟨wd, l5, ne⟩ := ppW_wd g hn hn2 hk h
  have wj := wds_join wd ne
  have tl := textP_len g hn hn2 hk h
  have sp' := split_wds (x := textP (n, p)) (by omega)
  rw [show wds (textP (n, p)) = ppW (n, p) from wj] at sp'
  have hx : Tx 505 (textP (n, p)) := tl
  have hW : ∀ w ∈ ppW (n, p), Tx 100 w := fun w hw => wd_tx (wd w hw)
  have l0 : 0 < (ppW (n, p)).length := List.length_pos_iff.mpr ne
  generalize textP (n, p) = x at *
  generalize ppW (n, p) = W at *
  have fz : (D.lst true (W.map .str)).frz = .lst false (W.map .str) := by rw [D.frz, frzL_strs]
  have ln := fives (ws := W) (o := false)
  have q1 := fdiv_pos' (i := c) (j := 8) (by decide) (by decide +kernel)
  obtain ⟨mo, hmo⟩ : ∃ mo : Int, mo = c / 8 := ⟨_, rfl⟩
  rw [← hmo] at q1
  obtain ⟨L, hL⟩ : ∃ L : Int, L = (W.length : Int) := ⟨_, rfl⟩
  have hL0 : 0 < L := by omega
  rw [← hL] at ln
  have q2 := mod_pos' (i := mo) (j := L) hL0
  obtain ⟨j, hj⟩ : ∃ j : Nat, mo % L = (j : Int) := Int.eq_ofNat_of_zero_le (RN.mod_in mo hL0).1
  rw [hj] at q2
  have e0 : t__law_bent_0 (EB m x c none none none none none none none) = .nx (EB m x c (some (.lst false (W.map .str))) none none none none none none) := by
    generalize D.lst true (W.map .str) = WW at *
    generalize D.lst false (W.map .str) = WF at *
    simp [t__law_bent_0, sp', fz]
  have e1 : t__law_bent_1 (EB m x c (some (.lst false (W.map .str))) none none none none none none) = .nx (EB m x c (some (.lst false (W.map .str))) (some (.int mo)) none none none none none) := by
    simp [t__law_bent_1, q1]
  have e2 : t__law_bent_2 (EB m x c (some (.lst false (W.map .str))) (some (.int mo)) none none none none none) = .nx (EB m x c (some (.lst false (W.map .str))) (some (.int mo)) (some (.int j)) none none none none) := by
    generalize D.lst false (W.map .str) = WF at *
    simp [t__law_bent_2, ln, q2]
  have ep := b_pool g hb hr (x := x) (c := c) (ws := some (.lst false (W.map .str))) (mo := some (.int mo)) (at_ := some (.int (j : Int)))
  obtain ⟨w, hw, e7⟩ := b_word g (x := x) (c := c) (mo := mo) (ws := some (.lst false (W.map .str))) (at_ := some (.int (j : Int)))
  have h9 := b_9 (m := m) (x := x) (w := w) (c := c) (mo := mo) (k := j) (P := pool m) hW l5
  have h11 := b_11 (m := m) (x := x) (w := w) (c := c) (mo := mo) (k := j) (P := pool m) hW l5 hw
  have h13 := b_13 (m := m) (x := x) (w := w) (c := c) (mo := mo) (k := j) (P := pool m) hW l5 hw
  obtain ⟨y, ρ, ty, he⟩ := b_end (m := m) (x := x) (w := w) (c := c) (mo := mo) (at_ := j) (W := W) (P := pool m) hx
  have asc : ∀ {A B C R : RL.Env → SRes} {ρ ρ' : RL.Env}, (sThen A (sThen B C)) ρ = .nx ρ' → (sThen A (sThen B (sThen C R))) ρ = R ρ' := fun {A B C R ρ ρ'} h => by
    rw [sThen_ap] at h ⊢
    cases ha : A ρ with
    | nx r =>
      rw [ha, andThen_nx, sThen_ap] at h
      rw [andThen_nx, sThen_ap]
      cases hb : B r with
      | nx r2 =>
        rw [hb, andThen_nx] at h
        rw [andThen_nx, sThen_ap, h, andThen_nx]
      | _ => rw [hb] at h; cases h
    | _ => rw [ha] at h; cases h
  rw [f__law_bent, runDef_ap, show entry 11 [m.D, .str x, .int c] = EB m x c none none none none none none none from rfl]
  unfold b__law_bent
  rw [sThen_ap, e0, andThen_nx, sThen_ap, e1, andThen_nx, sThen_ap, e2, andThen_nx, asc ep, sThen_ap, e7, andThen_nx, sThen_ap]
  rcases h9 with ⟨_, y, ty, e⟩ | ⟨_, e⟩
  · exact ⟨y, by rw [e]; rfl, ty⟩
  rw [e, andThen_nx, sThen_ap]
  rcases h11 with ⟨_, y, ty, e⟩ | ⟨_, e⟩
  · exact ⟨y, by rw [e]; rfl, ty⟩
  rw [e, andThen_nx, sThen_ap]
  rcases h13 with ⟨_, y, ty, e⟩ | ⟨_, e⟩
  · exact ⟨y, by rw [e]; rfl, ty⟩
  rw [e, andThen_nx]
  exact ⟨y, by rw [he]; rfl, ty⟩
end
end Lk21
namespace Lk21
open PySem RL RM RG RQ RW RE
open RR (Wd nm_wd optD numIn numIn_le)
theorem kinds_eq : f__law_kinds [badPaper] = .ok (.lst true [.str "paper"]) [] := rfl
section
variable {m : Mt} {nb nr : Nat}
abbrev pap : D := .lst true [.str "paper"]
abbrev EQ (m : Mt) (d : D) (f t e : Option D) : RL.Env := [some (obj m), some d, f, t, e]
theorem told_ok {d v : D} (cd : d.clean = true) (fd : d.frz = d) (cv : v.clean = true) (fv : v.frz = v) (nd : f_paper_read [obj m, d] = .ok v []) : f__law_told [obj m, d] = .ok v [] := by
  have e0 : t__law_told_0 (EQ m d none none none) = .nx (EQ m d (some .non) none none) := by simp [t__law_told_0]
  have e1 : t__law_told_1 (EQ m d (some .non) none none) = .nx (EQ m d (some .non) (some .non) none) := by simp [t__law_told_1]
  have nn : opIs .non .non = some (.bl true) := rfl
  have e4 : t__law_told_4 (EQ m d (some .non) (some .non) none) = .nx (EQ m d (some .non) (some v) none) := by
    have : t__law_told_2 (EQ m d (some .non) (some .non) none) = .nx (EQ m d (some .non) (some v) none) := by
      simp [t__law_told_2, cd, fd, nd, fv]
    rw [t__law_told_4, sTryAs, this]
  rw [f__law_told, runDef_ap, show entry 5 [obj m, d] = EQ m d none none none from rfl]
  unfold b__law_told
  rw [sThen_ap, e0, andThen_nx, sThen_ap, e1, andThen_nx, sThen_ap, e4, andThen_nx]
  simp [t__law_told_5, nn, cv]
theorem told_no {d : D} (cd : d.clean = true) (fd : d.frz = d) (nd : f_paper_read [obj m, d] = .exc badPaper []) : f__law_told [obj m, d] = .ok pap [] := by
  have e0 : t__law_told_0 (EQ m d none none none) = .nx (EQ m d (some .non) none none) := by simp [t__law_told_0]
  have e1 : t__law_told_1 (EQ m d (some .non) none none) = .nx (EQ m d (some .non) (some .non) none) := by simp [t__law_told_1]
  have e4 : t__law_told_4 (EQ m d (some .non) (some .non) none) = .nx (EQ m d (some badPaper) (some .non) none) := by
    have : t__law_told_2 (EQ m d (some .non) (some .non) none) = .exc badPaper (EQ m d (some .non) (some .non) none) := by
      simp [t__law_told_2, cd, fd, nd]
    have sg : subGo sub_RaceError "BadPaper" = some true := by decide +kernel
    rw [t__law_told_4, sTryAs, this]
    simp [sg, t__law_told_3, unset, D.clean, D.frz]
  have n2 : opIs badPaper .non = some (.bl false) := rfl
  have fz : badPaper.frz = badPaper := rfl
  have cl : badPaper.clean = true := rfl
  rw [f__law_told, runDef_ap, show entry 5 [obj m, d] = EQ m d none none none from rfl]
  unfold b__law_told
  rw [sThen_ap, e0, andThen_nx, sThen_ap, e1, andThen_nx, sThen_ap, e4, andThen_nx]
  simp [t__law_told_5, n2, kinds_eq, cl, fz]
theorem sbT : subGo sub_BadTime "BadTime" = some true := by decide +kernel
def tv (m : Mt) (x : Str) : D := if isP m (.tup (thingsOf (wds x))) = true then .tup (thingsOf (wds x)) else pap
theorem told_str (g : Good nb nr m) (hb : nb ≤ 1000) {x : Str} (hx : Tx 1000 x) : f__law_told [obj m, .str x] = .ok (tv m x) [] := by
  have r := paper_read_eq g (by omega) sbT hx.1
  rw [← same_read] at r
  unfold tv
  have ta := things_at (ws := wds x)
  by_cases q : isP m (.tup (thingsOf (wds x))) = true
  · rw [if_pos q] at r ⊢
    exact told_ok rfl rfl (by simp [at_cl ta]) (by simp [at_fz ta]) r
  · rw [if_neg q] at r ⊢
    exact told_no rfl rfl r
theorem told_odd {d : D} (h : At d) (hs : RT.isStr d = false) : f__law_told [obj m, d] = .ok pap [] := told_no h.cl h.fz (by rw [same_read]; exact paper_read_no h hs)
theorem shown_things {x : Str} (hx : Tx 1000 x) (l : (wds x).length ≤ 5) : ∃ s, fRepr [.tup (thingsOf (wds x))] = some (.str s) := by
  refine ⟨_, (sh_tup (n := 49) (c := 10002) (k := 5) (fun d hd => ?_) (by rw [things_len]; exact l)).rep (by omega)⟩
  have wl : ∀ w ∈ wds x, w.length ≤ 1000 ∧ PyData.strOk w = true := fun w hw => ⟨Nat.le_trans (wds_len hw) hx.1, wds_ok hw hx.2⟩
  generalize wds x = ws at *
  have op : ∀ {o : Option Int}, (∀ i, o = some i → 0 ≤ i ∧ i ≤ 1000000) → Sh 49 10002 (optD o) := fun {o} h => by
    cases o with
    | none => exact ⟨rfl, by simp [optD, costD]⟩
    | some i =>
      obtain ⟨a, b⟩ := h i rfl
      exact (sh_int a b).le (by omega)
  have st : ∀ {w : Str}, w ∈ ws → Sh 49 10002 (.str w) := fun {w} hw => sh_str (wl w hw).2 (wl w hw).1
  have ni : ∀ {w : Str}, Sh 49 10002 (optD (numIn w)) := fun {w} => op fun i hi => by have := numIn_le hi; omega
  have ti : ∀ {w : Str}, Sh 49 10002 (optD (RR.timeIn w)) := fun {w} => op fun i hi => by have := tread_le hi; omega
  match ws, hd with
  | [w0], hd =>
    simp only [thingsOf, List.mem_cons, List.not_mem_nil, or_false] at hd
    rw [hd]
    exact ni
  | w0 :: w1 :: r, hd =>
    rcases ends r with rfl | ⟨s, l, rfl⟩
    · rw [things_nil] at hd
      simp only [List.mem_cons, List.not_mem_nil, or_false] at hd
      rcases hd with rfl | rfl
      · exact ni
      · exact st (by simp)
    · rw [things_two] at hd
      simp only [List.mem_cons, List.mem_append, List.mem_map, List.not_mem_nil, or_false] at hd
      rcases hd with rfl | rfl | ⟨s', hs, rfl⟩ | rfl
      · exact ni
      · exact st (by simp)
      · exact st (by simp [hs])
      · unfold lastD
        split
        · exact ni
        · split
          · exact ti
          · exact st (by simp)
theorem isP_len5 {xs : List D} (h : isP m (.tup xs) = true) : xs.length ≤ 5 := by
  by_cases h3 : xs.length = 3
  · omega
  · by_cases h5 : xs.length = 5
    · omega
    · rw [isP_35 h3 h5] at h
      cases h
theorem rep_pap : fRepr [pap] = some (.str pap.py.shown) := fRepr_ok (by decide +kernel)
theorem rep_tv {x : Str} (hx : Tx 1000 x) : ∃ s, fRepr [tv m x] = some (.str s) := by
  unfold tv
  by_cases q : isP m (.tup (thingsOf (wds x))) = true
  · rw [if_pos q]
    exact shown_things hx (by have := isP_len5 q; rwa [things_len] at this)
  · rw [if_neg q]
    exact ⟨_, rep_pap⟩
abbrev EZ (ns : List Int) (m : Mt) (k : Int) (c : Int) (p t b o od du : Option D) : RL.Env := [some (.scr ns), some m.D, some (obj m), some (.int k), some (.int c), p, t, b, o, od, du]
theorem step8 (g : Good nb nr m) (hb : nb ≤ 100) (hr : nr ≤ 100) {ns : List Int} {k c : Int} {p t b od du : Option D} {x : Str} (hx : Tx 1000 x) : ∃ du', k_law_8 (EZ ns m k c p t b (some (.str x)) od du) = .nx (EZ ns m k c p t b (some (.str x)) od du') := by
  have to := told_str g (by omega) hx
  have lr := lread_eq g (by omega) (by omega) hx.1 hx.2
  obtain ⟨s, hs⟩ := rep_tv (m := m) hx
  have ta := things_at (ws := wds x)
  have z1 : 1 ≤ sizeLine := by decide
  have q0 : opNe (.str s) (.str s) = some (.bl false) := by simp
  unfold tv at to hs
  have opi : ∀ xs : List D, opIs (.tup xs) .non = some (.bl false) := fun _ => rfl
  have opn : opIs .non .non = some (.bl true) := rfl
  by_cases q : isP m (.tup (thingsOf (wds x))) = true
  · rw [if_pos q] at to lr hs
    have tc : (D.tup (thingsOf (wds x))).clean = true := by simp [at_cl ta]
    have tf : (D.tup (thingsOf (wds x))).frz = .tup (thingsOf (wds x)) := by simp [at_fz ta]
    have opi' := opi (thingsOf (wds x))
    generalize D.tup (thingsOf (wds x)) = V at *
    have e6 : t_law_6 (EZ ns m k c p t b (some (.str x)) od du) = .nx (EZ ns m k c p t b (some (.str x)) od (some V)) := by
      simp [t_law_6, lr, tf]
    have e7 : t_law_7 (EZ ns m k c p t b (some (.str x)) od (some V)) = .nx (EZ ns m k c p t b (some (.str x)) od (some V)) := by
      rw [t_law_7]
      simp [to, hs, opi', tc]
    exact ⟨some V, by rw [k_law_8, sThen_ap, e6, andThen_nx, e7]⟩
  · rw [if_neg q] at to lr hs
    have e6 : t_law_6 (EZ ns m k c p t b (some (.str x)) od du) = .nx (EZ ns m k c p t b (some (.str x)) od (some .non)) := by
      simp [t_law_6, lr]
    have e7 : t_law_7 (EZ ns m k c p t b (some (.str x)) od (some .non)) = .nx (EZ ns m k c p t b (some (.str x)) od (some .non)) := by
      rw [t_law_7]
      simp [to, hs, opn, z1]
    exact ⟨some .non, by rw [k_law_8, sThen_ap, e6, andThen_nx, e7]⟩
end
end Lk21
namespace Lk21
open PySem RL RM RG RQ RW RE
open RR (Wd nm_wd optD numIn numIn_le)
section
variable {m : Mt} {nb nr : Nat}
theorem tv_pp (g : Good nb nr m) {n : Int} {p : Pk} (hn : 1 ≤ n) (hn2 : n ≤ 9999) (h : PkOk m n p) : tv m (textP (n, p)) = ppD (n, p) := by
  obtain ⟨wd, l5, ne⟩ := ppW_wd g hn hn2 (by omega) h
  unfold tv
  rw [show wds (textP (n, p)) = ppW (n, p) from wds_join wd ne, things_pp g hn hn2 (by omega) h, ← ppD_L, pp_isP g hn hn2 h, if_pos rfl]
theorem tv_void : tv m "" = pap := by
  have e : wds ("" : Str) = [("" : Str)] := by
    apply RR.tl_inj
    rw [wds_tl]
    decide +kernel
  unfold tv
  rw [e]
  rfl
abbrev odds (T : Str) (P : D) : List D := [.non, .int 5, .bl true, .lst true [.str T], .tup [.str T], .dct true [] [], P, .str ""]
theorem odd_at (g : Good nb nr m) (hb : nb ≤ 1000) {T : Str} {p : Pp} : ∀ d ∈ odds T (ppD p), At d.frz ∧ f__law_told [obj m, d.frz] = .ok pap [] := by
  intro d hd
  have pd : At (ppD p) := ⟨by rw [ppD_L]; rfl, ppD_clean p, ppD_frz p⟩
  simp only [odds, List.mem_cons, List.not_mem_nil, or_false] at hd
  rcases hd with rfl | rfl | rfl | rfl | rfl | rfl | rfl | rfl
  · exact ⟨⟨rfl, rfl, rfl⟩, told_odd ⟨rfl, rfl, rfl⟩ rfl⟩
  · exact ⟨⟨rfl, rfl, rfl⟩, told_odd ⟨rfl, rfl, rfl⟩ rfl⟩
  · exact ⟨⟨rfl, rfl, rfl⟩, told_odd ⟨rfl, rfl, rfl⟩ rfl⟩
  · have e : (D.lst true [.str T]).frz = .lst false [.str T] := by simp
    rw [e]
    have a : At (.lst false [.str T]) := ⟨rfl, by simp, by simp⟩
    exact ⟨a, told_odd a rfl⟩
  · have e : (D.tup [.str T]).frz = .tup [.str T] := by simp
    rw [e]
    have a : At (.tup [.str T]) := ⟨rfl, by simp, by simp⟩
    exact ⟨a, told_odd a rfl⟩
  · have e : (D.dct true [] []).frz = .dct false [] [] := by simp [D.frz, frzL]
    rw [e]
    have a : At (.dct false [] []) := ⟨rfl, by simp, by simp [D.frz, frzL]⟩
    exact ⟨a, told_odd a rfl⟩
  · rw [ppD_frz]
    refine ⟨pd, told_odd pd ?_⟩
    rw [ppD_L]
    rfl
  · refine ⟨⟨rfl, rfl, rfl⟩, ?_⟩
    have := told_str g hb (x := "") ⟨by decide +kernel, by decide +kernel⟩
    rw [tv_void] at this
    exact this
theorem step13 (g : Good nb nr m) (hb : nb ≤ 100) (hr : nr ≤ 100) {ns : List Int} {k : Nat} {c : Int} {p t b o od du : Option D} (hk : k ≤ 1000) : ∃ p' t' b' o' od' du', k_law_13 (EZ ns m (k : Int) c p t b o od du) = .nx (EZ ns m (k : Int) c p' t' b' o' od' du') := by
  have h3 : 3 ≤ sizeLine := by decide
  have h1 : 1 ≤ sizeLine := by decide
  have h8 : 8 ≤ sizeLine := by decide
  obtain ⟨v, mv⟩ := mixE c (k := 300 + (k : Int)) (by omega)
  obtain ⟨w, mw⟩ := mixE c (k := 350 + (k : Int)) (by omega)
  obtain ⟨u, mu⟩ := mixE c (k := 380 + (k : Int)) (by omega)
  obtain ⟨z, mz⟩ := mixE c (k := 395 + (k : Int)) (by omega)
  rw [← same_mixed] at mv mw mu mz
  have b9 := RN.mod_in w (b := 9998) (by decide)
  have q9 := mod_pos' (i := w) (j := 9998) (by decide)
  have b8 := RN.mod_in z (b := 8) (by decide)
  have q8 := mod_pos' (i := z) (j := 8) (by decide)
  obtain ⟨n, hn⟩ : ∃ n : Int, n = 2 + w % 9998 := ⟨_, rfl⟩
  obtain ⟨pk, hp, ok⟩ := RQ.paper_eq g hb v (n := n) (by omega) (by omega)
  rw [← same_paper] at hp
  obtain ⟨te1, te2⟩ := text_eq g (n := n) (by omega) (by omega) (by omega) ok
  rw [← same_ptext] at te1
  rw [← same_ltext] at te2
  obtain ⟨tl, tk⟩ := textP_len g (n := n) (by omega) (by omega) (by omega) ok
  have tT : Tx 1000 (textP (n, pk)) := ⟨by omega, tk⟩
  obtain ⟨y, hy, ty⟩ := bent_eq g hb hr (n := n) (by omega) (by omega) (by omega) ok u
  have tvp := tv_pp g (n := n) (by omega) (by omega) ok
  have toT := told_str g (by omega) tT
  rw [tvp] at toT
  obtain ⟨sT, hsT⟩ := rep_tv (m := m) tT
  rw [tvp] at hsT
  have pc := ppD_clean (n, pk)
  have pf := ppD_frz (n, pk)
  have oa := odd_at g (by omega) (T := textP (n, pk)) (p := (n, pk))
  obtain ⟨d, hd, hm⟩ := at_in (xs := odds (textP (n, pk)) (ppD (n, pk))) (k := z % 8) b8.1 (by show _ < (8 : Int); exact b8.2)
  obtain ⟨da, dt⟩ := oa d hm
  have dc := da.cl
  have df := da.fz
  have ixd : opIx (.lst true (odds (textP (n, pk)) (ppD (n, pk)))) (.int (z % 8)) = some d := hd
  have hp' : f__law_paper [.int v, m.D, .int (2 + w % 9998)] = .ok (ppD (n, pk)) [] := by rw [← hn]; exact hp
  have e2 : t_law_2 (EZ ns m (k : Int) c p t b o od du) = .nx (EZ ns m (k : Int) c (some (ppD (n, pk))) t b o od du) := by
    generalize ppD (n, pk) = P at *
    simp [t_law_2, mv, mw, q9, hp', pf]
  have e3 : t_law_3 (EZ ns m (k : Int) c (some (ppD (n, pk))) t b o od du) = .nx (EZ ns m (k : Int) c (some (ppD (n, pk))) (some (.str (textP (n, pk)))) b o od du) := by
    simp [t_law_3, pc, pf, te2]
  have e4 : t_law_4 (EZ ns m (k : Int) c (some (ppD (n, pk))) (some (.str (textP (n, pk)))) b o od du) = .nx (EZ ns m (k : Int) c (some (ppD (n, pk))) (some (.str (textP (n, pk)))) b o od du) := by
    rw [t_law_4]
    simp [pc, pf, te1]
  have e5 : t_law_5 (EZ ns m (k : Int) c (some (ppD (n, pk))) (some (.str (textP (n, pk)))) b o od du) = .nx (EZ ns m (k : Int) c (some (ppD (n, pk))) (some (.str (textP (n, pk)))) (some (.str y)) o od du) := by
    simp [t_law_5, mu, hy]
  generalize hTT : textP (n, pk) = T at *
  generalize hPP : ppD (n, pk) = P at *
  obtain ⟨ρ, h8', o', du', rfl⟩ := for_nm (e := fun x : Str => D.str x) (t := 8) (S := k_law_8) (fun _ ρ => ∃ o du, ρ = EZ ns m (k : Int) c (some P) (some (.str T)) (some (.str y)) o od du) (xs := [T, y, T]) (ρ := EZ ns m (k : Int) c (some P) (some (.str T)) (some (.str y)) o od du) ⟨o, du, rfl⟩ (by rintro i ρ ⟨o, du, rfl⟩; simp) (by
    rintro pre x post ρ he ⟨o, du, rfl⟩
    have hx : Tx 1000 x := by
      have : x ∈ [T, y, T] := by rw [he]; simp
      simp only [List.mem_cons, List.not_mem_nil, or_false] at this
      rcases this with rfl | rfl | rfl
      · exact tT
      · exact ty
      · exact tT
    obtain ⟨du', h⟩ := step8 g hb hr (ns := ns) (k := (k : Int)) (c := c) (p := some P) (t := some (.str T)) (b := some (.str y)) (od := od) (du := du) hx
    exact ⟨_, h, _, _, rfl⟩)
  have e8 : t_law_8 (EZ ns m (k : Int) c (some P) (some (.str T)) (some (.str y)) o od du) = .nx (EZ ns m (k : Int) c (some P) (some (.str T)) (some (.str y)) o' od du') := by
    have e : (sIter (sFz (sTup (sCons (sVar 6) (sCons (sVar 7) (sCons (sVar 6) sNil)))))) (EZ ns m (k : Int) c (some P) (some (.str T)) (some (.str y)) o od du) = .ok ([T, y, T].map fun x => D.str x) := by
      simp [sFz, h3]
    rw [t_law_8, sFor_ap, e, stm_ok]
    exact h8'
  have e9 : t_law_9 (EZ ns m (k : Int) c (some P) (some (.str T)) (some (.str y)) o' od du') = .nx (EZ ns m (k : Int) c (some P) (some (.str T)) (some (.str y)) o' (some d.frz) du') := by
    have s : (sLst (sCons (sC .non) (sCons (sC (.int 5)) (sCons (sC (.bl true)) (sCons (sLst (sCons (sVar 6) sNil)) (sCons (sTup (sCons (sVar 6) sNil)) (sCons (sC (.dct true [] [])) (sCons (sVar 5) (sCons (sC (.str "")) sNil))))))))) (EZ ns m (k : Int) c (some P) (some (.str T)) (some (.str y)) o' od du') = .ok (.lst true (odds T P)) := by
      simp [h1, h8, pc]
    rw [t_law_9, sAsg_ap, sIx_ap, s, bind_ok]
    simp [mz, q8, ixd, -opIx_l]
  have e10 : t_law_10 (EZ ns m (k : Int) c (some P) (some (.str T)) (some (.str y)) o' (some d.frz) du') = .nx (EZ ns m (k : Int) c (some P) (some (.str T)) (some (.str y)) o' (some d.frz) du') := by
    rw [t_law_10]
    have rp := rep_pap
    unfold pap at dt rp
    generalize d.frz = F at *
    simp [dc, df, dt, rp, h1]
  have e11 : t_law_11 (EZ ns m (k : Int) c (some P) (some (.str T)) (some (.str y)) o' (some d.frz) du') = .nx (EZ ns m (k : Int) c (some P) (some (.str T)) (some (.str y)) o' (some d.frz) du') := by
    rw [t_law_11]
    simp [toT, hsT]
  exact ⟨_, _, _, _, _, _, by rw [k_law_13, sThen_ap, e2, andThen_nx, sThen_ap, e3, andThen_nx, sThen_ap, e4, andThen_nx, sThen_ap, e5, andThen_nx, sThen_ap, e8, andThen_nx, sThen_ap, e9, andThen_nx, sThen_ap, e10, andThen_nx, e11]⟩
theorem law_true (ns : List Int) (hn : ns.length ≤ 63) : ∃ os, f_law [.scr ns] = .ok (.bl true) os := by
  have h1 : 1 ≤ sizeLine := by decide
  obtain ⟨m, g, hm⟩ := meeting_eq (ns := ns) (nb := 8) (nr := 4) (by decide) (by decide) (by decide)
  rw [← same_meeting] at hm
  have ho := of_eq g (by decide) (by decide)
  rw [← same_of] at ho
  have e0 : t_law_0 [some (.scr ns), none, none, none, none, none, none, none, none, none, none] = .nx [some (.scr ns), some m.D, none, none, none, none, none, none, none, none, none] := by
    have hm' : f__law_meeting [.scr ns, .int 8, .int 4] = .ok m.D [] := hm
    simp [t_law_0, hm']
  have e1 : t_law_1 [some (.scr ns), some m.D, none, none, none, none, none, none, none, none, none] = .nx [some (.scr ns), some m.D, some (obj m), none, none, none, none, none, none, none, none] := by
    simp [t_law_1, ho]
  obtain ⟨cs, hcs⟩ : ∃ cs : List Int, cs = RL.cutL ns (some 4) (some 63) := ⟨_, rfl⟩
  have cll : cs.length ≤ 59 := by
    have := cut_nn ns 4 63
    rw [show ((4 : Nat) : Int) = 4 from rfl, show ((63 : Nat) : Int) = 63 from rfl] at this
    rw [hcs, this, List.length_take, List.length_drop]
    omega
  have en := enum_ints (o := true) (cs := cs ++ [0])
  obtain ⟨ρ9, h9, I9⟩ := for_of (e := fun q : Int × Nat => .tup [.int (q.2 : Int), .int q.1]) (t := .tp [.nm 3, .nm 4]) (S := k_law_13) (fun _ ρ => ρ.length = 11 ∧ ∃ x y, ρ = [some (.scr ns), some m.D, some (obj m), x, y] ++ ρ.drop 5) (xs := (cs ++ [0]).zipIdx 0) (ρ := [some (.scr ns), some m.D, some (obj m), none, none, none, none, none, none, none, none]) ⟨rfl, none, none, rfl⟩ (by
    rintro pre ⟨c, k⟩ post ρ he ⟨hl, x, y, hρ⟩
    have hk : k < 60 + 1 := by
      have hm : (c, k) ∈ (cs ++ [0]).zipIdx 0 := by rw [he]; simp
      have := List.mem_zipIdx hm
      simp at this
      omega
    obtain ⟨p, b, t, kp, du, tu, h5⟩ : ∃ p b t kp du tu, ρ.drop 5 = [p, b, t, kp, du, tu] := by
      have : (ρ.drop 5).length = 6 := by rw [List.length_drop, hl]
      match h : ρ.drop 5, this with
      | [p, b, t, kp, du, tu], _ => exact ⟨_, _, _, _, _, _, rfl⟩
    rw [h5] at hρ
    subst hρ
    obtain ⟨p', b', t', kp', du', tu', hs⟩ := step13 g (by decide) (by decide) (ns := ns) (k := k) (c := c) (p := p) (t := b) (b := t) (o := kp) (od := du) (du := tu) (by omega)
    exact ⟨_, _, by simp, hs, rfl, _, _, rfl⟩)
  have e9 : t_law_12 [some (.scr ns), some m.D, some (obj m), none, none, none, none, none, none, none, none] = .nx ρ9 := by
    have lc : cs.length ≤ sizeLine := by unfold sizeLine; omega
    have ad : opAdd (.lst true (cs.map .int)) (.lst true [.int 0]) = some (.lst true ((cs ++ [0]).map .int)) := by
      rw [opAdd_l cleanL_ints (by simp) (by simp [sizeLine]; omega)]
      simp
    have e : (sI enum1 (sCons (s2 opAdd (sCall (on1 fListX) (sCons (sSl (sVarB 0) (sPs (sC (.int 4))) (sPs (sC (.int 63)))) sNil)) (sLst (sCons (sC (.int 0)) sNil))) sNil)) [some (.scr ns), some m.D, some (obj m), none, none, none, none, none, none, none, none] = .ok (((cs ++ [0]).zipIdx 0).map fun q : Int × Nat => .tup [.int (q.2 : Int), .int q.1]) := by
      generalize (cs ++ [0]).zipIdx 0 = Z at *
      generalize D.lst true ((cs ++ [0]).map .int) = L at *
      simp [opSl, ← hcs, fListX, fList, lc, h1, ad, en]
    rw [t_law_12, sFor_ap, e, stm_ok]
    exact h9
  refine ⟨[], ?_⟩
  rw [f_law, runDef_ap]
  unfold b_law
  rw [sThen_ap, show entry 11 [D.scr ns] = [some (.scr ns), none, none, none, none, none, none, none, none, none, none] from rfl, e0, andThen_nx, sThen_ap, e1, andThen_nx, sThen_ap, e9, andThen_nx]
  rfl
end
end Lk21
theorem PySem.Challenge.cw_regattaroll_k21_papers_written_and_read_holds : PySem.Challenge.rw_regattaroll_k21_papers_written_and_read.Holds :=
  Lk21.holds Lk21.law_true
