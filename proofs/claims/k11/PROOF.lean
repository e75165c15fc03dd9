import PyProof.Rows.All
import Wide.All
import OpenK.AllK
import Wide.FinOn
import HandS.ForMost
import HandS.Exc
import HandS.TryOnly
import HandS.ExcOwn
import HandS.WordsExc
import HandS.Lambda
import HandS.Wide
import HandS.Style
import HandS.Deep
import HandS.IsInst
import HandS.StrMore
import HandS.RaiseMore
import HandS.Head0
import HandS.Head1
import HandS.Head2
import HandS.HeadEnd
import HandS.HeadHook1
import HandS.HeadHook2
import HandS.FStr
import PyProof.StrLawsRepr
import HandS.Finally
import HandS.TryMany
import HandS.ExcIs
import HandS.Codes
import HandS.Conv
import KE.KDictSum
import PyProof.TupleOfGen
import HandS.ListItems
import HandS.WordsDict
import HandS.SetFor
import HandS.Strs
import KE.KDictPairs
import KE.SortData
import KE.SortKeyHeap
import HandS.SortInts
import KE.GoesMore
import KE.KEqDict
import HandS.More
import HandS.Remove
import KE.KDictZip
import KE.KAssignIn
import PyProof.EqKinds
import HandS.HeadHook3
import KE.KStateDown
import Lean
import PySem.Challenge.RW_regattaroll_k11_texts_shown_and_read
import HandS.TupAny
set_option Elab.async false
set_option linter.all false
set_option maxRecDepth 100000
set_option maxHeartbeats 8000000
namespace RL
open PySem PySem.Spec PyProof.Rows L2
abbrev Sl := L2.St
inductive D where
  | non | bl (b : Bool) | int (i : Int) | str (x : Str)
  | tup (ds : List D)
  | lst (o : Bool) (ds : List D)
  | dct (o : Bool) (ks : List Key) (ds : List D)
  | obj (o : Bool) (c : Str) (ns : List Str) (ds : List D)
  | exn (c : Str) (ns : List Str) (ds : List D)
    | scr (ns : List Int)
    | tux (ds : List D)
mutual
def D.clean : D → Bool
  | .tup ds => cleanL ds
  | .tux ds => cleanL ds
  | .lst o ds => !o && cleanL ds
  | .dct o _ ds => !o && cleanL ds
  | .obj o _ _ ds => !o && cleanL ds
  | _ => true
def cleanL : List D → Bool
  | [] => true
  | d :: ds => d.clean && cleanL ds
end
mutual
def D.frz : D → D
  | .tup ds => .tup (frzL ds)
  | .tux ds => .tux (frzL ds)
  | .lst _ ds => .lst false (frzL ds)
  | .dct _ ks ds => .dct false ks (frzL ds)
  | .obj _ c ns ds => .obj false c ns (frzL ds)
  | d => d
def frzL : List D → List D
  | [] => []
  | d :: ds => d.frz :: frzL ds
end
structure Gd where
  K : PySem.W.Frag
  mg : Str → Option Value
def tabOf (o : Obj) : Option (Addr × Str) := match o.data, o.cls with
  | .fields vs, .type t => (match vs.getD 11 .none, vs.getD 18 .none, vs.getD 7 .none, vs.getD 9 .none, vs.getD 10 .none, vs.getD 1 .none with
    | .ref T, .str _ _, .int _ _, .bool _, .int _ _, .str q _ => if t = "code" then some (T, q ++ ".<locals>." ++ "<lambda>") else none
    | _, _, _, _, _, _ => none)
  | _, _ => none
theorem tabOf_code {o : Obj} {T : Addr} {q : Str} (e : tabOf o = some (T, q)) {h : Heap} {c : Addr} (hc : h.get? c = some o) (ne : c ≠ T) : PySem.W.CodeHd h c T := by
  obtain ⟨cls, dct, dat, sl⟩ := o
  unfold tabOf at e
  split at e
  · rename_i vs t hd hcl
    simp only at hd hcl
    subst hd
    subst hcl
    split at e
    · rename_i T' s18 t18 i7 t7 b9 i10 t10 q' t1 h11 h18 h7 h9 h10 h1
      split at e
      · rename_i ht
        subst ht
        have e' := Prod.mk.inj (Option.some.inj e)
        obtain ⟨rfl, _⟩ := e'
        have h11' : vs[11]? = some (.ref T') := by
          rw [Array.getD_eq_getD_getElem?] at h11
          cases z : vs[11]? with
          | none => rw [z] at h11; cases h11
          | some w => rw [z] at h11; exact congrArg some h11
        exact ⟨_, vs, _, _, _, _, _, _, _, hc, rfl, rfl, h11', h11, h18, h7, h9, h10, ne⟩
      · cases e
    · cases e
  · cases e
def tabsOf (K : PySem.W.Frag) : List (Addr × Str) := K.filterMap fun p => tabOf p.2
abbrev mark (q : Str) : HO := .tbl #[.int (-1) 0, .int (-1) 0, .str q 0]
def Marks (G : Gd) (P : Hp) : Prop := ∀ p ∈ tabsOf G.K, P p.1 = some (mark p.2)
theorem Marks.mono {G : Gd} {P P' : Hp} (m : Marks G P) (s : Same P P') : Marks G P' := fun p hp => s _ _ (m p hp)
def ExT (cls : Value) (d : Option Addr) (a : Addr) : HO := .ext fun h => ∃ (oe : Obj) (vs : Array Value), h.get? a = some oe ∧ oe.cls = cls ∧ oe.dict = d ∧ oe.data = .fields vs
def D.flat? : D → Option V
  | .non => some .non
  | .bl b => some (.bl b)
  | .int i => some (.int i)
  | .str x => some (.str x)
  | _ => none
def XF (P : Hp) (dx : Option Addr) (ns : List Str) (ds : List D) : Prop := (ns = [] ∧ ds = [] ∧ dx = none) ∨ ns ≠ [] ∧ ∃ d vs, dx = some d ∧ P d = some (.xd (ns.zip vs)) ∧ ns.length = vs.length ∧ ds.mapM D.flat? = some vs
theorem XF.mono {P P' : Hp} {dx : Option Addr} {ns : List Str} {ds : List D} (s : Same P P') (h : XF P dx ns ds) : XF P' dx ns ds := by
  rcases h with h | ⟨h0, d, vs, h1, h2, h3, h4⟩
  · exact .inl h
  · exact .inr ⟨h0, d, vs, h1, s _ _ h2, h3, h4⟩
mutual
inductive Rel (G : Gd) (P H : Hp) : V → D → List Addr → Prop
  | non : Rel G P H .non .non []
  | bl (b : Bool) : Rel G P H (.bl b) (.bl b) []
  | int (i : Int) : Rel G P H (.int i) (.int i) []
  | str (x : Str) : Rel G P H (.str x) (.str x) []
  | tup {a : Addr} {xs : List V} {ds : List D} {A : List Addr} : SqT G.K P a xs → RelL G P H xs ds A → Rel G P H (.ref a) (.tup ds) A
  | tux {a : Addr} {o : Obj} {xs : List V} {ds : List D} : P a = some (.frz o (.tup xs)) → o.dict = none → RelL G P H xs ds [] → Rel G P H (.ref a) (.tux ds) []
  | scr {a : Addr} {ns : List Int} : SqL G.K P a (ns.map V.int) → Rel G P H (.ref a) (.scr ns) []
  | lstF {a : Addr} {xs : List V} {ds : List D} : P a = some (.lst xs) → RelL G P H xs ds [] → Rel G P H (.ref a) (.lst false ds) []
  | lstO {a : Addr} {xs : List V} {ds : List D} {A : List Addr} : H a = some (.lst xs) → RelL G P H xs ds A → Rel G P H (.ref a) (.lst true ds) (a :: A)
  | dctF {a : Addr} {ks : List Key} {vs : List V} {ds : List D} : P a = some (.dK (ks.zip vs)) → ks.length = vs.length → RelL G P H vs ds [] → Rel G P H (.ref a) (.dct false ks ds) []
  | dctO {a : Addr} {ks : List Key} {vs : List V} {ds : List D} {A : List Addr} : H a = some (.dK (ks.zip vs)) → ks.length = vs.length → RelL G P H vs ds A → Rel G P H (.ref a) (.dct true ks ds) (a :: A)
  | objF {a dx C : Addr} {c : Str} {ns : List Str} {vs : List V} {ds : List D} : G.mg c = some (.ref C) → P a = some (.ins C dx (ns.zip vs)) → ns.length = vs.length → RelL G P H vs ds [] → Rel G P H (.ref a) (.obj false c ns ds) []
  | objO {a dx C : Addr} {c : Str} {ns : List Str} {vs : List V} {ds : List D} {A : List Addr} : G.mg c = some (.ref C) → H a = some (.ins C dx (ns.zip vs)) → ns.length = vs.length → RelL G P H vs ds A → Rel G P H (.ref a) (.obj true c ns ds) (a :: A)
  | exn {a C : Addr} {dx : Option Addr} {c : Str} {ns : List Str} {ds : List D} : G.mg c = some (.ref C) → P a = some (ExT (.ref C) dx a) → XF P dx ns ds → Rel G P H (.ref a) (.exn c ns ds) []
inductive RelL (G : Gd) (P H : Hp) : List V → List D → List Addr → Prop
  | nil : RelL G P H [] [] []
  | cons {v : V} {d : D} {A : List Addr} {vs : List V} {ds : List D} {B : List Addr} : Rel G P H v d A → RelL G P H vs ds B → RelL G P H (v :: vs) (d :: ds) (A ++ B)
end
theorem Same.sqT {K : PySem.W.Frag} {H H' : Hp} {a : Addr} {xs : List V} (e : Same H H') (h : SqT K H a xs) : SqT K H' a xs := by
  rcases h with (h | ⟨o, h⟩) | h
  · exact .inl (.inl (e _ _ h))
  · exact .inl (.inr ⟨o, e _ _ h⟩)
  · exact .inr h
section
variable {G : Gd} {P P' H H' : Hp}
mutual
theorem Rel.mono (s : Same P P') : ∀ {v : V} {d : D} {A : List Addr}, (∀ b ∈ A, H' b = H b) → Rel G P H v d A → Rel G P' H' v d A
  | _, _, _, _, .non => .non
  | _, _, _, _, .bl b => .bl b
  | _, _, _, _, .int i => .int i
  | _, _, _, _, .str x => .str x
  | _, _, _, h, .tup q r => .tup (Same.sqT s q) (RelL.mono s h r)
  | _, _, _, h, .scr q => .scr (Same.seq s q)
  | _, _, _, h, .tux q e r => .tux (s _ _ q) e (RelL.mono s (by simp) r)
  | _, _, _, h, .lstF q r => .lstF (s _ _ q) (RelL.mono s (by simp) r)
  | _, _, _, h, .lstO q r => .lstO (by rw [h _ List.mem_cons_self]; exact q) (RelL.mono s (fun b hb => h b (List.mem_cons_of_mem _ hb)) r)
  | _, _, _, h, .dctF q l r => .dctF (s _ _ q) l (RelL.mono s (by simp) r)
  | _, _, _, h, .dctO q l r => .dctO (by rw [h _ List.mem_cons_self]; exact q) l (RelL.mono s (fun b hb => h b (List.mem_cons_of_mem _ hb)) r)
  | _, _, _, h, .objF c q l r => .objF c (s _ _ q) l (RelL.mono s (by simp) r)
  | _, _, _, h, .objO c q l r => .objO c (by rw [h _ List.mem_cons_self]; exact q) l (RelL.mono s (fun b hb => h b (List.mem_cons_of_mem _ hb)) r)
  | _, _, _, h, .exn c q x => .exn c (s _ _ q) (x.mono s)
theorem RelL.mono (s : Same P P') : ∀ {vs : List V} {ds : List D} {A : List Addr}, (∀ b ∈ A, H' b = H b) → RelL G P H vs ds A → RelL G P' H' vs ds A
  | _, _, _, _, .nil => .nil
  | _, _, _, h, .cons r t => .cons (Rel.mono s (fun b hb => h b (List.mem_append_left _ hb)) r) (RelL.mono s (fun b hb => h b (List.mem_append_right _ hb)) t)
end
mutual
theorem Rel.at : ∀ {v : V} {d : D} {A : List Addr}, Rel G P H v d A → ∀ b ∈ A, ∃ o, H b = some o
  | _, _, _, .tup _ r, b, hb => RelL.at r b hb
  | _, _, _, .lstO q r, b, hb => (List.mem_cons.mp hb).elim (fun e => e ▸ ⟨_, q⟩) (RelL.at r b)
  | _, _, _, .dctO q _ r, b, hb => (List.mem_cons.mp hb).elim (fun e => e ▸ ⟨_, q⟩) (RelL.at r b)
  | _, _, _, .objO _ q _ r, b, hb => (List.mem_cons.mp hb).elim (fun e => e ▸ ⟨_, q⟩) (RelL.at r b)
  | _, _, _, .non, b, hb => by simp at hb
  | _, _, _, .bl _, b, hb => by simp at hb
  | _, _, _, .int _, b, hb => by simp at hb
  | _, _, _, .str _, b, hb => by simp at hb
  | _, _, _, .lstF _ _, b, hb => by simp at hb
  | _, _, _, .scr _, b, hb => by simp at hb
  | _, _, _, .tux _ _ _, b, hb => by simp at hb
  | _, _, _, .dctF _ _ _, b, hb => by simp at hb
  | _, _, _, .objF _ _ _ _, b, hb => by simp at hb
  | _, _, _, .exn _ _ _, b, hb => by simp at hb
theorem RelL.at : ∀ {vs : List V} {ds : List D} {A : List Addr}, RelL G P H vs ds A → ∀ b ∈ A, ∃ o, H b = some o
  | _, _, _, .nil, b, hb => by simp at hb
  | _, _, _, .cons r t, b, hb => (List.mem_append.mp hb).elim (Rel.at r b) (RelL.at t b)
end
mutual
theorem Rel.unl : ∀ {v : V} {d : D} {A : List Addr}, Rel G P H v d A → ∀ b ∈ A, ∀ o u, H b ≠ some (.frz o u)
  | _, _, _, .tup _ r, b, hb => RelL.unl r b hb
  | _, _, _, .lstO q r, b, hb => (List.mem_cons.mp hb).elim (fun e o u z => by rw [e, q] at z; cases z) (RelL.unl r b)
  | _, _, _, .dctO q _ r, b, hb => (List.mem_cons.mp hb).elim (fun e o u z => by rw [e, q] at z; cases z) (RelL.unl r b)
  | _, _, _, .objO _ q _ r, b, hb => (List.mem_cons.mp hb).elim (fun e o u z => by rw [e, q] at z; cases z) (RelL.unl r b)
  | _, _, _, .non, b, hb => by simp at hb
  | _, _, _, .bl _, b, hb => by simp at hb
  | _, _, _, .int _, b, hb => by simp at hb
  | _, _, _, .str _, b, hb => by simp at hb
  | _, _, _, .lstF _ _, b, hb => by simp at hb
  | _, _, _, .scr _, b, hb => by simp at hb
  | _, _, _, .tux _ _ _, b, hb => by simp at hb
  | _, _, _, .dctF _ _ _, b, hb => by simp at hb
  | _, _, _, .objF _ _ _ _, b, hb => by simp at hb
  | _, _, _, .exn _ _ _, b, hb => by simp at hb
theorem RelL.unl : ∀ {vs : List V} {ds : List D} {A : List Addr}, RelL G P H vs ds A → ∀ b ∈ A, ∀ o u, H b ≠ some (.frz o u)
  | _, _, _, .nil, b, hb => by simp at hb
  | _, _, _, .cons r t, b, hb => (List.mem_append.mp hb).elim (Rel.unl r b) (RelL.unl t b)
end
mutual
theorem Rel.clean : ∀ {v : V} {d : D} {A : List Addr}, Rel G P H v d A → d.clean = true → A = []
  | _, _, _, .tup _ r, c => RelL.clean r (by simpa [D.clean] using c)
  | _, _, _, .lstO _ _, c => by simp [D.clean] at c
  | _, _, _, .dctO _ _ _, c => by simp [D.clean] at c
  | _, _, _, .objO _ _ _ _, c => by simp [D.clean] at c
  | _, _, _, .non, c => rfl
  | _, _, _, .bl _, c => rfl
  | _, _, _, .int _, c => rfl
  | _, _, _, .str _, c => rfl
  | _, _, _, .lstF _ _, c => rfl
  | _, _, _, .scr _, c => rfl
  | _, _, _, .tux _ _ _, c => rfl
  | _, _, _, .dctF _ _ _, c => rfl
  | _, _, _, .objF _ _ _ _, c => rfl
  | _, _, _, .exn _ _ _, c => rfl
theorem RelL.clean : ∀ {vs : List V} {ds : List D} {A : List Addr}, RelL G P H vs ds A → cleanL ds = true → A = []
  | _, _, _, .nil, c => rfl
  | _, _, _, .cons r t, c => by
    simp only [cleanL, Bool.and_eq_true] at c
    rw [Rel.clean r c.1, RelL.clean t c.2]
    rfl
end
theorem RelL.length : ∀ {vs : List V} {ds : List D} {A : List Addr}, RelL G P H vs ds A → vs.length = ds.length
  | _, _, _, .nil => rfl
  | _, _, _, .cons _ t => congrArg (· + 1) (RelL.length t)
theorem RelL.get : ∀ {vs : List V} {ds : List D} {A : List Addr} {i : Nat} {d : D}, RelL G P H vs ds A → ds[i]? = some d → ∃ v B, vs[i]? = some v ∧ Rel G P H v d B ∧ (∀ b ∈ B, b ∈ A)
  | _, _, _, _, _, .nil, e => by simp at e
  | _, _, _, 0, _, .cons r t, e => by simp at e; subst e; exact ⟨_, _, rfl, r, fun b hb => List.mem_append_left _ hb⟩
  | _, _, _, i + 1, _, .cons r t, e => by
    obtain ⟨v, B, h1, h2, h3⟩ := RelL.get (i := i) t (by simpa using e)
    exact ⟨v, B, by simpa using h1, h2, fun b hb => List.mem_append_right _ (h3 b hb)⟩
end
def Under (P H : Hp) : Prop := ∀ a u, P a = some u → H a = some u ∨ (∃ o kvs, u = .dK kvs ∧ H a = some (.frz o u)) ∨
  ∃ q ps, u = mark q ∧ H a = some (.tbl ps) ∧ TriplesOk ps.toList ∧ ∀ (pos : Pos) (cv : Value), codeAmong pos ps.toList = some cv → ∃ c, cv = .ref c ∧ P c = some (LamX.CodeO c q)
structure Ext (P H P' H' : Hp) (A : List Addr) : Prop where
  same : Same P P'
  und : Under P' H'
  keep : ∀ b o, H b = some o → P b = none → b ∉ A → H' b = some o
  lck : ∀ b o u, H b = some (.frz o u) → H' b = some (.frz o u)
  new : ∀ b o, P' b = some o → P b = some o ∨ H b = none ∨ b ∈ A
theorem Under.seqL {K : PySem.W.Frag} {P H : Hp} {a : Addr} {xs : List V} (u : Under P H) (h : SqL K P a xs) : SqL K H a xs := by
  rcases h with (h | ⟨o, h⟩) | h
  · rcases u _ _ h with q | ⟨_, _, e, _⟩ | ⟨_, _, e, _⟩
    · exact .inl (.inl q)
    · cases e
    · cases e
  · rcases u _ _ h with q | ⟨_, _, e, _⟩ | ⟨_, _, e, _⟩
    · exact .inl (.inr ⟨o, q⟩)
    · cases e
    · cases e
  · exact .inr h
theorem Under.seqT {K : PySem.W.Frag} {P H : Hp} {a : Addr} {xs : List V} (u : Under P H) (h : SqT K P a xs) : SqT K H a xs := by
  rcases h with (h | ⟨o, h⟩) | h
  · rcases u _ _ h with q | ⟨_, _, e, _⟩ | ⟨_, _, e, _⟩
    · exact .inl (.inl q)
    · cases e
    · cases e
  · rcases u _ _ h with q | ⟨_, _, e, _⟩ | ⟨_, _, e, _⟩
    · exact .inl (.inr ⟨o, q⟩)
    · cases e
    · cases e
  · exact .inr h
theorem Ext.refl {P H : Hp} {A : List Addr} (u : Under P H) : Ext P H P H A := ⟨Same.refl P, u, fun _ _ h _ _ => h, fun _ _ _ h => h, fun _ _ h => .inl h⟩
theorem Ext.there {P H P' H' : Hp} (e : Ext P H P' H' []) (u : Under P H) {b : Addr} {o : HO} (h : H b = some o) : ∃ o', H' b = some o' := by
  cases q : P b with
  | none => exact ⟨o, e.keep b o h q (by simp)⟩
  | some w =>
    rcases e.und _ _ (e.same _ _ q) with r | ⟨_, _, _, r⟩ | ⟨_, _, _, r, _⟩
    · exact ⟨_, r⟩
    · exact ⟨_, r⟩
    · exact ⟨_, r⟩
theorem Ext.free {P H P' H' : Hp} (e : Ext P H P' H' []) (u : Under P H) {b : Addr} (h : H' b = none) : H b = none := by
  cases q : H b with
  | none => rfl
  | some o =>
    obtain ⟨o', r⟩ := e.there u q
    rw [h] at r; cases r
theorem Ext.trans {P H P1 H1 P2 H2 : Hp} (u : Under P H) (a : Ext P H P1 H1 []) (b : Ext P1 H1 P2 H2 []) : Ext P H P2 H2 [] where
  same := a.same.trans b.same
  und := b.und
  lck := fun c o u h => b.lck c o u (a.lck c o u h)
  keep := fun c o h n hc => by
    refine b.keep c o (a.keep c o h n hc) ?_ hc
    cases q : P1 c with
    | none => rfl
    | some w =>
      rcases a.new c w q with z | z | z
      · rw [n] at z; cases z
      · rw [h] at z; cases z
      · simp at z
  new := fun c o h => by
    rcases b.new c o h with z | z | z
    · exact a.new c o z
    · exact .inr (.inl (a.free u z))
    · simp at z
theorem Ext.own {P H P' H' : Hp} {A : List Addr} (e : Ext P H P' H' []) (ha : ∀ b ∈ A, ∃ o, H b = some o) (hp : ∀ b ∈ A, P b = none) : (∀ b ∈ A, H' b = H b) ∧ ∀ b ∈ A, P' b = none := by
  refine ⟨fun b hb => ?_, fun b hb => ?_⟩
  · obtain ⟨o, q⟩ := ha b hb
    rw [q, e.keep b o q (hp b hb) (by simp)]
  · cases q : P' b with
    | none => rfl
    | some w =>
      obtain ⟨o, r⟩ := ha b hb
      rcases e.new b w q with z | z | z
      · rw [hp b hb] at z; cases z
      · rw [r] at z; cases z
      · simp at z
section
variable {G : Gd} {P P' H H' : Hp}
theorem Rel.ext {v : V} {d : D} {A : List Addr} (r : Rel G P H v d A) (e : Ext P H P' H' []) (hp : ∀ b ∈ A, P b = none) : Rel G P' H' v d A := r.mono e.same (e.own r.at hp).1
theorem RelL.ext {v : List V} {d : List D} {A : List Addr} (r : RelL G P H v d A) (e : Ext P H P' H' []) (hp : ∀ b ∈ A, P b = none) : RelL G P' H' v d A := r.mono e.same (e.own r.at hp).1
def give (P H : Hp) (A : List Addr) : Hp := fun b => if b ∈ A then H b else P b
theorem give_in {A : List Addr} {b : Addr} (h : b ∈ A) : give P H A b = H b := if_pos h
theorem give_out {A : List Addr} {b : Addr} (h : b ∉ A) : give P H A b = P b := if_neg h
theorem give_same {A : List Addr} (hp : ∀ b ∈ A, P b = none) : Same P (give P H A) := fun b o h => by
  by_cases hb : b ∈ A
  · rw [hp b hb] at h; cases h
  · rw [give_out hb]; exact h
theorem give_und {A : List Addr} (u : Under P H) (hp : ∀ b ∈ A, P b = none) : Under (give P H A) H := fun b o h => by
  by_cases hb : b ∈ A
  · rw [give_in hb] at h; exact .inl h
  · rw [give_out hb] at h
    rcases u b o h with z | z | ⟨q, ps, z1, z2, z3, z4⟩
    · exact .inl z
    · exact .inr (.inl z)
    · refine .inr (.inr ⟨q, ps, z1, z2, z3, fun pos cv hc => ?_⟩)
      obtain ⟨c, e1, e2⟩ := z4 pos cv hc
      exact ⟨c, e1, give_same hp _ _ e2⟩
theorem give_ext {A : List Addr} (u : Under P H) (hp : ∀ b ∈ A, P b = none) : Ext P H (give P H A) H A where
  same := give_same hp
  und := give_und u hp
  keep := fun _ _ h _ _ => h
  lck := fun _ _ _ h => h
  new := fun b o h => by
    by_cases hb : b ∈ A
    · exact .inr (.inr hb)
    · rw [give_out hb] at h; exact .inl h
mutual
theorem Rel.frz (s : Same P P') : ∀ {v : V} {d : D} {A : List Addr}, (∀ b ∈ A, P' b = H b) → Rel G P H v d A → Rel G P' H' v d.frz []
  | _, _, _, _, .non => .non
  | _, _, _, _, .bl b => .bl b
  | _, _, _, _, .int i => .int i
  | _, _, _, _, .str x => .str x
  | _, _, _, h, .tup q r => .tup (Same.sqT s q) (RelL.frz s h r)
  | _, _, _, h, .scr q => .scr (Same.seq s q)
  | _, _, _, h, .tux q e r => .tux (s _ _ q) e (RelL.frz s (by simp) r)
  | _, _, _, h, .lstF q r => .lstF (s _ _ q) (RelL.frz s (by simp) r)
  | _, _, _, h, .lstO q r => .lstF (by rw [h _ List.mem_cons_self]; exact q) (RelL.frz s (fun b hb => h b (List.mem_cons_of_mem _ hb)) r)
  | _, _, _, h, .dctF q l r => .dctF (s _ _ q) l (RelL.frz s (by simp) r)
  | _, _, _, h, .dctO q l r => .dctF (by rw [h _ List.mem_cons_self]; exact q) l (RelL.frz s (fun b hb => h b (List.mem_cons_of_mem _ hb)) r)
  | _, _, _, h, .objF c q l r => .objF c (s _ _ q) l (RelL.frz s (by simp) r)
  | _, _, _, h, .objO c q l r => .objF c (by rw [h _ List.mem_cons_self]; exact q) l (RelL.frz s (fun b hb => h b (List.mem_cons_of_mem _ hb)) r)
  | _, _, _, h, .exn c q x => .exn c (s _ _ q) (x.mono s)
theorem RelL.frz (s : Same P P') : ∀ {vs : List V} {ds : List D} {A : List Addr}, (∀ b ∈ A, P' b = H b) → RelL G P H vs ds A → RelL G P' H' vs (frzL ds) []
  | _, _, _, _, .nil => .nil
  | _, _, _, h, .cons r t => .cons (A := []) (B := []) (Rel.frz s (fun b hb => h b (List.mem_append_left _ hb)) r) (RelL.frz s (fun b hb => h b (List.mem_append_right _ hb)) t)
end
end
abbrev Env := List (Option D)
inductive EnvRel (G : Gd) (P H : Hp) : Sl → Env → List Addr → Prop
  | nil : EnvRel G P H [] [] []
  | no {s : Option V} {σ : Sl} {ρ : Env} {A : List Addr} : EnvRel G P H σ ρ A → EnvRel G P H (s :: σ) (none :: ρ) A
  | val {v : V} {d : D} {σ : Sl} {ρ : Env} {A B : List Addr} : Rel G P H v d A → EnvRel G P H σ ρ B → EnvRel G P H (some v :: σ) (some d :: ρ) (A ++ B)
section
variable {G : Gd} {P P' H H' : Hp}
theorem EnvRel.mono (s : Same P P') : ∀ {σ : Sl} {ρ : Env} {A : List Addr}, (∀ b ∈ A, H' b = H b) → EnvRel G P H σ ρ A → EnvRel G P' H' σ ρ A
  | _, _, _, _, .nil => .nil
  | _, _, _, h, .no t => .no (t.mono s h)
  | _, _, _, h, .val r t => .val (r.mono s fun b hb => h b (List.mem_append_left _ hb)) (t.mono s fun b hb => h b (List.mem_append_right _ hb))
theorem EnvRel.at : ∀ {σ : Sl} {ρ : Env} {A : List Addr}, EnvRel G P H σ ρ A → ∀ b ∈ A, ∃ o, H b = some o
  | _, _, _, .nil, b, hb => by simp at hb
  | _, _, _, .no t, b, hb => t.at b hb
  | _, _, _, .val r t, b, hb => (List.mem_append.mp hb).elim (r.at b) (t.at b)
theorem EnvRel.unl : ∀ {σ : Sl} {ρ : Env} {A : List Addr}, EnvRel G P H σ ρ A → ∀ b ∈ A, ∀ o u, H b ≠ some (.frz o u)
  | _, _, _, .nil, b, hb => by simp at hb
  | _, _, _, .no t, b, hb => t.unl b hb
  | _, _, _, .val r t, b, hb => (List.mem_append.mp hb).elim (r.unl b) (t.unl b)
theorem EnvRel.ext {σ : Sl} {ρ : Env} {A : List Addr} (r : EnvRel G P H σ ρ A) (e : Ext P H P' H' []) (hp : ∀ b ∈ A, P b = none) : EnvRel G P' H' σ ρ A := r.mono e.same (e.own r.at hp).1
theorem EnvRel.length : ∀ {σ : Sl} {ρ : Env} {A : List Addr}, EnvRel G P H σ ρ A → σ.length = ρ.length
  | _, _, _, .nil => rfl
  | _, _, _, .no t => congrArg (· + 1) t.length
  | _, _, _, .val _ t => congrArg (· + 1) t.length
theorem EnvRel.get : ∀ {σ : Sl} {ρ : Env} {A : List Addr} {i : Nat} {d : D}, EnvRel G P H σ ρ A → ρ[i]? = some (some d) → ∃ v B, σ[i]? = some (some v) ∧ Rel G P H v d B ∧ ∀ b ∈ B, b ∈ A
  | _, _, _, _, _, .nil, e => by simp at e
  | _, _, _, 0, _, .no t, e => by simp at e
  | _, _, _, 0, _, .val r t, e => by simp at e; subst e; exact ⟨_, _, rfl, r, fun b hb => List.mem_append_left _ hb⟩
  | _, _, _, i + 1, _, .no t, e => by
    obtain ⟨v, B, h1, h2, h3⟩ := t.get (i := i) (by simpa using e)
    exact ⟨v, B, by simpa using h1, h2, h3⟩
  | _, _, _, i + 1, _, .val r t, e => by
    obtain ⟨v, B, h1, h2, h3⟩ := t.get (i := i) (by simpa using e)
    exact ⟨v, B, by simpa using h1, h2, fun b hb => List.mem_append_right _ (h3 b hb)⟩
theorem EnvRel.out : ∀ {σ : Sl} {ρ : Env} {A : List Addr} {i : Nat}, EnvRel G P H σ ρ A → i < ρ.length → ∃ B C, (A.Perm (B ++ C)) ∧ EnvRel G P H σ (ρ.set i none) C ∧
    ((∃ d v, ρ[i]? = some (some d) ∧ σ[i]? = some (some v) ∧ Rel G P H v d B) ∨ (ρ[i]? = some none ∧ B = []))
  | _, _, _, i, .nil, h => by simp at h
  | _, _, _, 0, .no t, h => ⟨[], _, .refl _, .no t, .inr ⟨rfl, rfl⟩⟩
  | _, _, _, 0, .val r t, h => ⟨_, _, .refl _, .no t, .inl ⟨_, _, rfl, rfl, r⟩⟩
  | _, _, _, i + 1, .no t, h => by
    obtain ⟨B, C, p, e, q⟩ := t.out (i := i) (by simpa using h)
    exact ⟨B, C, p, .no e, by simpa using q⟩
  | _, _, _, i + 1, .val (A := A1) (B := B1) r t, h => by
    obtain ⟨B, C, p, e, q⟩ := t.out (i := i) (by simpa using h)
    refine ⟨B, A1 ++ C, ?_, .val r e, by simpa using q⟩
    refine (p.append_left A1).trans ?_
    rw [← List.append_assoc, ← List.append_assoc]
    exact List.Perm.append_right C List.perm_append_comm
theorem EnvRel.put {v : V} {d : D} {B : List Addr} (r : Rel G P H v d B) : ∀ {σ : Sl} {ρ : Env} {C : List Addr} {i : Nat}, EnvRel G P H σ ρ C → i < ρ.length → ρ[i]? = some none → ∃ A, A.Perm (B ++ C) ∧ EnvRel G P H (σ.set i (some v)) (ρ.set i (some d)) A
  | _, _, _, i, .nil, h, _ => by simp at h
  | _, _, _, 0, .no t, h, _ => ⟨_, .refl _, .val r t⟩
  | _, _, _, 0, .val _ t, h, e => by simp at e
  | _, _, _, i + 1, .no t, h, e => by
    obtain ⟨A, p, q⟩ := t.put (i := i) r (by simpa using h) (by simpa using e)
    exact ⟨A, p, .no q⟩
  | _, _, _, i + 1, .val (A := A1) r1 t, h, e => by
    obtain ⟨A, p, q⟩ := t.put (i := i) r (by simpa using h) (by simpa using e)
    refine ⟨A1 ++ A, ?_, .val r1 q⟩
    refine (p.append_left A1).trans ?_
    rw [← List.append_assoc, ← List.append_assoc]
    exact List.Perm.append_right _ List.perm_append_comm
theorem EnvRel.set_same : ∀ {σ : Sl} {i : Nat} {v : V}, σ[i]? = some (some v) → σ.set i (some v) = σ
  | [], _, _, h => by simp at h
  | s :: σ, 0, v, h => by simp at h; subst h; rfl
  | s :: σ, i + 1, v, h => by
    show s :: σ.set i (some v) = s :: σ
    rw [EnvRel.set_same (by simpa using h)]
theorem EnvRel.drop : ∀ {σ : Sl} {ρ : Env} {A : List Addr} {i : Nat}, EnvRel G P H σ ρ A → ∃ C, (∀ b ∈ C, b ∈ A) ∧ (A.Nodup → C.Nodup) ∧ EnvRel G P H σ (ρ.set i none) C := fun {σ ρ A i} e => by
  by_cases h : i < ρ.length
  · obtain ⟨B, C, p, q, _⟩ := e.out h
    exact ⟨C, fun b hb => p.symm.subset (List.mem_append_right _ hb), fun n => ((p.nodup_iff.mp n).sublist (List.sublist_append_right _ _)), q⟩
  · refine ⟨A, fun _ h => h, fun n => n, ?_⟩
    rw [List.set_eq_of_length_le (by omega)]
    exact e
theorem EnvRel.anyAt {s : Option V} : ∀ {σ : Sl} {ρ : Env} {A : List Addr} {i : Nat}, EnvRel G P H σ ρ A → ρ[i]? = some none → EnvRel G P H (σ.set i s) ρ A
  | _, _, _, i, .nil, h => by simp at h
  | _, _, _, 0, .no t, _ => .no t
  | _, _, _, 0, .val _ _, h => by simp at h
  | _, _, _, i + 1, .no t, h => .no (t.anyAt (by simpa using h))
  | _, _, _, i + 1, .val r t, h => .val r (t.anyAt (by simpa using h))
end
structure StRel (G : Gd) (P H : Hp) (σ : Sl) (ρ : Env) (A : List Addr) : Prop where
  und : Under P H
  env : EnvRel G P H σ ρ A
  nd : A.Nodup
  off : ∀ b ∈ A, P b = none
  mks : Marks G P
theorem StRel.ext {G : Gd} {P H P' H' : Hp} {σ : Sl} {ρ : Env} {A : List Addr} (s : StRel G P H σ ρ A) (e : Ext P H P' H' []) : StRel G P' H' σ ρ A :=
  ⟨e.und, s.env.ext e s.off, s.nd, (e.own s.env.at s.off).2, s.mks.mono e.same⟩
end RL
namespace RL
open PySem PySem.Spec PyProof.Rows L2
abbrev gd (X : Cx) : Gd := ⟨X.K, X.mg⟩
inductive Res (α : Type) where
  | ok (a : α) | exc (x : D) | bad
def Res.bind {α β : Type} (r : Res α) (f : α → Res β) : Res β := match r with
  | .ok a => f a
  | .exc x => .exc x
  | .bad => .bad
def opt {α : Type} : Option α → Res α
  | some a => .ok a
  | none => .bad
def XRel (G : Gd) (P : Hp) (cls : Value) (dx : Option Addr) (x : D) : Prop := ∃ c ns ds C, x = .exn c ns ds ∧ G.mg c = some (.ref C) ∧ cls = .ref C ∧ XF P dx ns ds
def Fresh (P' H : Hp) (B : List Addr) : Prop := B.Nodup ∧ ∀ b ∈ B, H b = none ∧ P' b = none
theorem Fresh.nil {P' H : Hp} : Fresh P' H [] := ⟨List.nodup_nil, fun b h => by simp at h⟩
def Post (G : Gd) (P H : Hp) (Q : VK) (d : D) : Prop := ∀ v P' H' B, Ext P H P' H' [] → Rel G P' H' v d B → Fresh P' H B → Q v H'
def PostB (G : Gd) (P H : Hp) (Q : VK) (d : D) : Prop := ∀ v P' H' B, Ext P H P' H' [] → Rel G P' H' v d B → (∀ b ∈ B, P' b = none) → Q v H'
def PostX (G : Gd) (P H : Hp) (W : WX) (σ : Sl) (x : D) : Prop := ∀ cls dx P' H', Ext P H P' H' [] → XRel G P' cls dx x → W cls dx σ H'
def tE (G : Gd) (W : WX) (S : Env → Res D) : TE := fun σ H Q => ∃ P ρ A, StRel G P H σ ρ A ∧ match S ρ with
  | .ok d => Post G P H Q d
  | .exc x => PostX G P H W σ x
  | .bad => False
def tBo (G : Gd) (W : WX) (S : Env → Res D) : TE := fun σ H Q => ∃ P ρ A, StRel G P H σ ρ A ∧ match S ρ with
  | .ok d => PostB G P H Q d
  | .exc x => PostX G P H W σ x
  | .bad => False
def tT (G : Gd) (W : WX) (S : Env → Res Bool) : TT := fun σ H Q => ∃ P ρ A, StRel G P H σ ρ A ∧ match S ρ with
  | .ok b => ∀ P' H', Ext P H P' H' [] → Q b H'
  | .exc x => PostX G P H W σ x
  | .bad => False
def PostL (G : Gd) (P H : Hp) (Q : List V → Hp → Prop) (ds : List D) : Prop := ∀ vs P' H' B, Ext P H P' H' [] → RelL G P' H' vs ds B → Fresh P' H B → Q vs H'
def PostLB (G : Gd) (P H : Hp) (Q : List V → Hp → Prop) (ds : List D) : Prop := ∀ vs P' H' B, Ext P H P' H' [] → RelL G P' H' vs ds B → (∀ b ∈ B, P' b = none) → Q vs H'
def tL (G : Gd) (W : WX) (S : Env → Res (List D)) : TA := fun σ H Q => ∃ P ρ A, StRel G P H σ ρ A ∧ match S ρ with
  | .ok ds => PostL G P H Q ds
  | .exc x => PostX G P H W σ x
  | .bad => False
def tLB (G : Gd) (W : WX) (S : Env → Res (List D)) : TA := fun σ H Q => ∃ P ρ A, StRel G P H σ ρ A ∧ match S ρ with
  | .ok ds => PostLB G P H Q ds
  | .exc x => PostX G P H W σ x
  | .bad => False
structure EOk (X : Cx) (W : WX) (e : Expr) (S : Env → Res D) : Prop where pe : PE X e (tE (gd X) W S)
structure BOk (X : Cx) (W : WX) (e : Expr) (S : Env → Res D) : Prop where pe : PE X e (tBo (gd X) W S)
structure TOk (X : Cx) (W : WX) (e : Expr) (S : Env → Res Bool) : Prop where pt : PT X e (tT (gd X) W S)
structure AOk (X : Cx) (W : WX) (es : List Expr) (S : Env → Res (List D)) : Prop where pa : PA X es (tL (gd X) W S)
structure ABOk (X : Cx) (W : WX) (es : List Expr) (S : Env → Res (List D)) : Prop where pa : PA X es (tLB (gd X) W S)
theorem PE.imp {X : Cx} {e : Expr} {t t' : TE} (h : PE X e t) (f : ∀ σ H Q, t' σ H Q → t σ H Q) : PE X e t' := ⟨fun pins s σ H Q I q => h.run pins s σ H Q I (f σ H Q q)⟩
theorem PT.imp {X : Cx} {e : Expr} {t t' : TT} (h : PT X e t) (f : ∀ σ H Q, t' σ H Q → t σ H Q) : PT X e t' := ⟨fun pins s σ H Q I q => h.run pins s σ H Q I (f σ H Q q)⟩
theorem PA.imp {X : Cx} {e : List Expr} {t t' : TA} (h : PA X e t) (f : ∀ σ H Q, t' σ H Q → t σ H Q) : PA X e t' := ⟨fun pos pins s σ H Q I q => h.run pos pins s σ H Q I (f σ H Q q)⟩
theorem PS.imp {X : Cx} {e : Stmt} {t t' : TS} (h : PS X e t) (f : ∀ D σ H, t' D σ H → t D σ H) : PS X e t' := ⟨fun pins s σ H D I q => h.run pins s σ H D I (f D σ H q)⟩
theorem PSs.imp {X : Cx} {e : List Stmt} {t t' : TS} (h : PSs X e t) (f : ∀ D σ H, t' D σ H → t D σ H) : PSs X e t' := ⟨fun pins s σ H D I q => h.run pins s σ H D I (f D σ H q)⟩
theorem PE.or {X : Cx} {e : Expr} {t t' : TE} (h : PE X e t) (h' : PE X e t') : PE X e (fun σ H Q => t σ H Q ∨ t' σ H Q) := ⟨fun pins s σ H Q I q => q.elim (h.run pins s σ H Q I) (h'.run pins s σ H Q I)⟩
section
variable {G : Gd} {P P1 H H1 : Hp} {W : WX} {σ : Sl}
theorem Post.ext {Q : VK} {d : D} (h : Post G P H Q d) (u : Under P H) (e : Ext P H P1 H1 []) : Post G P1 H1 Q d := fun v P' H' B e' r f => h v P' H' B (e.trans u e') r ⟨f.1, fun b hb => ⟨e.free u (f.2 b hb).1, (f.2 b hb).2⟩⟩
theorem PostB.ext {Q : VK} {d : D} (h : PostB G P H Q d) (u : Under P H) (e : Ext P H P1 H1 []) : PostB G P1 H1 Q d := fun v P' H' B e' r f => h v P' H' B (e.trans u e') r f
theorem PostB.post {Q : VK} {d : D} (h : PostB G P H Q d) : Post G P H Q d := fun v P' H' B e r f => h v P' H' B e r fun b hb => (f.2 b hb).2
theorem PostX.ext {x : D} (h : PostX G P H W σ x) (u : Under P H) (e : Ext P H P1 H1 []) : PostX G P1 H1 W σ x := fun cls dx P' H' e' r => h cls dx P' H' (e.trans u e') r
end
section
variable {X : Cx} {W : WX} {e a b : Expr} {pos : Pos} {Sa Sb : Env → Res D}
theorem EOk.bo (h : EOk X W e Sa) : BOk X W e Sa := ⟨PE.imp h.pe fun σ H Q ⟨P, ρ, A, st, q⟩ => ⟨P, ρ, A, st, by
  cases hs : Sa ρ with
  | ok d => rw [hs] at q; exact PostB.post q
  | exc x => rw [hs] at q; exact q
  | bad => rw [hs] at q; exact q⟩⟩
def sCl (S : Env → Res D) : Env → Res D := fun ρ => (S ρ).bind fun d => if d.clean = true then .ok d else .bad
theorem BOk.eo (h : BOk X W e Sa) : EOk X W e (sCl Sa) := ⟨PE.imp h.pe fun σ H Q ⟨P, ρ, A, st, q⟩ => ⟨P, ρ, A, st, by
  unfold sCl at q
  cases hs : Sa ρ with
  | ok d =>
    simp only [hs, Res.bind] at q
    by_cases hc : d.clean = true
    · rw [if_pos hc] at q
      exact fun v P' H' B e r f => q v P' H' B e r (by rw [r.clean hc]; exact Fresh.nil)
    · rw [if_neg hc] at q; exact q.elim
  | exc x => simp only [hs, Res.bind] at q; exact q
  | bad => simp only [hs, Res.bind] at q⟩⟩
theorem EOk.to {S S' : Env → Res D} (h : EOk X W e S) (q : S = S') : EOk X W e S' := q ▸ h
def sVarB (i : Nat) : Env → Res D := fun ρ => match ρ[i]? with
  | some (some d) => .ok d
  | _ => .bad
def sVar (i : Nat) : Env → Res D := sCl (sVarB i)
theorem b_var (i : Nat) {x : Str} {p : Pos} (hN : X.N[i]? = some x := by rfl) (hv : Vis X.env.scope x := by first | exact Or.inl rfl | exact Or.inr (Or.inl rfl) | exact Or.inr (Or.inr rfl)) (hd : (x == ("__debug__" : Str)) = false := by decide)
    (hcd : (x == ("__classdict__" : Str)) = false := by decide) : BOk X W (.Name x p) (sVarB i) := ⟨PE.imp (pe_var hN hv hd hcd) fun σ H Q ⟨P, ρ, A, st, q⟩ => by
  unfold sVarB at q
  split at q
  · rename_i d hs
    split at hs
    · cases hs
      rename_i d' hd'
      obtain ⟨v, B, h1, h2, h3⟩ := st.env.get hd'
      exact ⟨v, h1, q v P H B (Ext.refl st.und) h2 fun b hb => st.off b (h3 b hb)⟩
    · cases hs
  · rename_i hs
    split at hs <;> cases hs
  · exact q.elim⟩
theorem e_var (i : Nat) {x : Str} {p : Pos} (hN : X.N[i]? = some x := by rfl) (hv : Vis X.env.scope x := by first | exact Or.inl rfl | exact Or.inr (Or.inl rfl) | exact Or.inr (Or.inr rfl)) (hd : (x == ("__debug__" : Str)) = false := by decide)
    (hcd : (x == ("__classdict__" : Str)) = false := by decide) : EOk X W (.Name x p) (sVar i) := (b_var i hN hv hd hcd).eo
def sC (d : D) : Env → Res D := fun _ => .ok d
theorem e_val {v : V} {d : D} (h : PE X e (tC v)) (r : ∀ P H, Rel (gd X) P H v d []) : EOk X W e (sC d) := ⟨PE.imp h fun σ H Q ⟨P, ρ, A, st, q⟩ => q v P H [] (Ext.refl st.und) (r P H) Fresh.nil⟩
theorem e_int {i : Int} {j : Nat} {p : Pos} : EOk X W (.Constant (.int i) j p) (sC (.int i)) := e_val pe_int fun _ _ => .int i
theorem e_bl {i : Bool} {j : Nat} {p : Pos} : EOk X W (.Constant (.bool i) j p) (sC (.bl i)) := e_val pe_bl fun _ _ => .bl i
theorem e_non {j : Nat} {p : Pos} : EOk X W (.Constant .none j p) (sC .non) := e_val pe_non fun _ _ => .non
theorem e_str {i : Str} {j : Nat} {p : Pos} : EOk X W (.Constant (.str i) j p) (sC (.str i)) := e_val pe_str fun _ _ => .str i
def rD (G : Gd) (f : D → D → Option D) : R2 := fun x y H Q => ∃ P dx dy Bx By, Under P H ∧ Rel G P H x dx Bx ∧ Rel G P H y dy By ∧ (∀ b ∈ Bx, P b = none) ∧ (∀ b ∈ By, P b = none) ∧ match f dx dy with
  | some d => Post G P H Q d
  | none => False
def s2 (f : D → D → Option D) (Sa Sb : Env → Res D) : Env → Res D := fun ρ => (Sa ρ).bind fun x => (Sb ρ).bind fun y => opt (f x y)
theorem two {f : D → D → Option D} {r : R2} (hr : ∀ x y H Q, rD (gd X) f x y H Q → r x y H Q) {σ : Sl} {H : Hp} {Q : VK} (h : tE (gd X) W (s2 f Sa Sb) σ H Q) : tOp r (tBo (gd X) W Sa) (tBo (gd X) W Sb) σ H Q := by
  obtain ⟨P, ρ, A, st, h⟩ := h
  refine ⟨P, ρ, A, st, ?_⟩
  unfold s2 at h
  cases ha : Sa ρ with
  | bad => simp only [ha, Res.bind] at h
  | exc x => simp only [ha, Res.bind] at h; exact h
  | ok dx =>
    simp only [ha, Res.bind] at h
    intro v P1 H1 B1 e1 r1 o1
    refine ⟨P1, ρ, A, st.ext e1, ?_⟩
    cases hb : Sb ρ with
    | bad => simp only [hb] at h
    | exc x => simp only [hb] at h; exact PostX.ext h st.und e1
    | ok dy =>
      simp only [hb] at h
      intro v2 P2 H2 B2 e2 r2 o2
      refine hr _ _ _ _ ⟨P2, dx, dy, B1, B2, e2.und, r1.ext e2 o1, r2, (e2.own r1.at o1).2, o2, ?_⟩
      cases hf : f dx dy with
      | none => simp only [hf, opt] at h
      | some d => simp only [hf, opt] at h; exact Post.ext h st.und (e1.trans st.und e2)
theorem e_op {op : Operator} {f : D → D → Option D} (ho : OpR X (binaryOp op) (rD (gd X) f)) (ha : BOk X W a Sa) (hb : BOk X W b Sb) : EOk X W (.BinOp a op b pos) (s2 f Sa Sb) :=
  ⟨PE.imp (pe_op ho ha.pe hb.pe) fun _ _ _ => two fun _ _ _ _ h => h⟩
theorem e_cmp {op : CmpOp} {f : D → D → Option D} (ho : OpR X (compareOp op) (rD (gd X) f)) (ha : BOk X W a Sa) (hb : BOk X W b Sb) (hm : behindInMarks op b = false := by first | exact nobehind _ (by decide) (by decide) | rfl) : EOk X W (.Compare a [op] [b] pos) (s2 f Sa Sb) :=
  ⟨PE.imp (pe_cmpR ho ha.pe hb.pe hm) fun _ _ _ => two fun _ _ _ _ h => h⟩
def asB : D → Res Bool
  | .bl b => .ok b
  | _ => .bad
def sTest (S : Env → Res D) : Env → Res Bool := fun ρ => (S ρ).bind asB
theorem test_of {S : Env → Res D} {σ : Sl} {H : Hp} {Q : Bool → Hp → Prop} (h : tT (gd X) W (sTest S) σ H Q) : tE (gd X) W S σ H fun x H' => ∃ k, x = .bl k ∧ Q k H' := by
  obtain ⟨P, ρ, A, st, h⟩ := h
  refine ⟨P, ρ, A, st, ?_⟩
  unfold sTest at h
  cases hs : S ρ with
  | bad => simp only [hs, Res.bind] at h
  | exc x => simp only [hs, Res.bind] at h; exact h
  | ok d =>
    simp only [hs, Res.bind] at h
    intro v P' H' B e r f
    cases d with
    | bl k => cases r; exact ⟨k, rfl, h P' H' e⟩
    | _ => simp only [asB] at h
theorem t_cmp {op : CmpOp} {f : D → D → Option D} (ho : OpR X (compareOp op) (rD (gd X) f)) (ha : BOk X W a Sa) (hb : BOk X W b Sb) (hm : behindInMarks op b = false := by first | exact nobehind _ (by decide) (by decide) | rfl) : TOk X W (.Compare a [op] [b] pos) (sTest (s2 f Sa Sb)) :=
  ⟨PT.imp (pt_cmpR ho ha.pe hb.pe hm) fun _ _ _ h => two (fun _ _ _ _ h => h) (test_of h)⟩
theorem t_val {S : Env → Res D} (h : EOk X W e S) (he : ∀ whole, isTrue e X.env whole = (do let v ← whole; standAt e.pos; holding [v] (truthy v)) := by intro _; rfl) : TOk X W e (sTest S) :=
  ⟨PT.imp (pt_val h.pe he) fun _ _ _ h => test_of h⟩
def sNot (S : Env → Res Bool) : Env → Res Bool := fun ρ => (S ρ).bind fun b => .ok (!b)
theorem t_not {S : Env → Res Bool} (h : TOk X W a S) : TOk X W (.UnaryOp .Not a pos) (sNot S) := ⟨PT.imp (pt_not h.pt) fun σ H Q ⟨P, ρ, A, st, q⟩ => ⟨P, ρ, A, st, by
  unfold sNot at q
  cases hs : S ρ <;> simp only [hs, Res.bind] at q <;> exact q⟩⟩
def sAndT (S T : Env → Res Bool) : Env → Res Bool := fun ρ => (S ρ).bind fun b => if b = true then T ρ else .ok false
def sOrT (S T : Env → Res Bool) : Env → Res Bool := fun ρ => (S ρ).bind fun b => if b = true then .ok true else T ρ
structure WOk (X : Cx) (W : WX) (e : Expr) (S : Env → Res Bool) : Prop where pw : PW X e (tT (gd X) W S)
theorem PW.imp {X : Cx} {e : Expr} {t t' : TT} (h : PW X e t) (f : ∀ σ H Q, t' σ H Q → t σ H Q) : PW X e t' := ⟨fun wh pins s σ H Q I q => h.run wh pins s σ H Q I (f σ H Q q)⟩
theorem WOk.t {S : Env → Res Bool} (h : WOk X W e S) : TOk X W e S := ⟨h.pw.pt⟩
theorem w_and1 {S : Env → Res Bool} (h : TOk X W a S) : WOk X W (.BoolOp .And [a] pos) S := ⟨pw_and1 h.pt⟩
theorem w_or1 {S : Env → Res Bool} (h : TOk X W a S) : WOk X W (.BoolOp .Or [a] pos) S := ⟨pw_or1 h.pt⟩
theorem w_and {S T : Env → Res Bool} {r : List Expr} (h : TOk X W a S) (h' : WOk X W (.BoolOp .And (b :: r) pos) T) : WOk X W (.BoolOp .And (a :: b :: r) pos) (sAndT S T) := ⟨PW.imp (pw_and h.pt h'.pw) fun σ H Q ⟨P, ρ, A, st, q⟩ => ⟨P, ρ, A, st, by
  unfold sAndT at q
  cases hs : S ρ with
  | bad => simp only [hs, Res.bind] at q
  | exc x => simp only [hs, Res.bind] at q; exact q
  | ok k =>
    simp only [hs, Res.bind] at q
    intro P1 H1 e1
    cases k with
    | false => simp only [Bool.false_eq_true, if_false] at q ⊢; exact q P1 H1 e1
    | true =>
      simp only [if_true] at q ⊢
      refine ⟨P1, ρ, A, st.ext e1, ?_⟩
      cases ht : T ρ with
      | bad => simp only [ht] at q
      | exc x => simp only [ht] at q; exact PostX.ext q st.und e1
      | ok k' => simp only [ht] at q; exact fun P2 H2 e2 => q P2 H2 (e1.trans st.und e2)⟩⟩
theorem w_or {S T : Env → Res Bool} {r : List Expr} (h : TOk X W a S) (h' : WOk X W (.BoolOp .Or (b :: r) pos) T) : WOk X W (.BoolOp .Or (a :: b :: r) pos) (sOrT S T) := ⟨PW.imp (pw_or h.pt h'.pw) fun σ H Q ⟨P, ρ, A, st, q⟩ => ⟨P, ρ, A, st, by
  unfold sOrT at q
  cases hs : S ρ with
  | bad => simp only [hs, Res.bind] at q
  | exc x => simp only [hs, Res.bind] at q; exact q
  | ok k =>
    simp only [hs, Res.bind] at q
    intro P1 H1 e1
    cases k with
    | true => simp only [if_true] at q ⊢; exact q P1 H1 e1
    | false =>
      simp only [Bool.false_eq_true, if_false] at q ⊢
      refine ⟨P1, ρ, A, st.ext e1, ?_⟩
      cases ht : T ρ with
      | bad => simp only [ht] at q
      | exc x => simp only [ht] at q; exact PostX.ext q st.und e1
      | ok k' => simp only [ht] at q; exact fun P2 H2 e2 => q P2 H2 (e1.trans st.und e2)⟩⟩
def sIf (C : Env → Res Bool) (Sa Sb : Env → Res D) : Env → Res D := fun ρ => (C ρ).bind fun k => if k = true then Sa ρ else Sb ρ
theorem e_if {c : Expr} {C : Env → Res Bool} (hc : TOk X W c C) (ha : EOk X W a Sa) (hb : EOk X W b Sb) : EOk X W (.IfExp c a b pos) (sIf C Sa Sb) := ⟨PE.imp (pe_ifExp hc.pt ha.pe hb.pe) fun σ H Q ⟨P, ρ, A, st, q⟩ => ⟨P, ρ, A, st, by
  unfold sIf at q
  cases hs : C ρ with
  | bad => simp only [hs, Res.bind] at q
  | exc x => simp only [hs, Res.bind] at q; exact q
  | ok k =>
    simp only [hs, Res.bind] at q
    intro P1 H1 e1
    cases k with
    | true =>
      simp only [if_true] at q ⊢
      refine ⟨P1, ρ, A, st.ext e1, ?_⟩
      cases ht : Sa ρ with
      | bad => simp only [ht] at q
      | exc x => simp only [ht] at q; exact PostX.ext q st.und e1
      | ok k' => simp only [ht] at q; exact Post.ext q st.und e1
    | false =>
      simp only [Bool.false_eq_true, if_false] at q ⊢
      refine ⟨P1, ρ, A, st.ext e1, ?_⟩
      cases ht : Sb ρ with
      | bad => simp only [ht] at q
      | exc x => simp only [ht] at q; exact PostX.ext q st.und e1
      | ok k' => simp only [ht] at q; exact Post.ext q st.und e1⟩⟩
def sB (S : Env → Res Bool) : Env → Res D := fun ρ => (S ρ).bind fun b => .ok (.bl b)
theorem val_of {S : Env → Res Bool} {σ : Sl} {H : Hp} {Q : VK} (h : tE (gd X) W (sB S) σ H Q) : tT (gd X) W S σ H fun k H' => Q (.bl k) H' := by
  obtain ⟨P, ρ, A, st, h⟩ := h
  refine ⟨P, ρ, A, st, ?_⟩
  unfold sB at h
  cases hs : S ρ with
  | bad => simp only [hs, Res.bind] at h
  | exc x => simp only [hs, Res.bind] at h; exact h
  | ok d => simp only [hs, Res.bind] at h; exact fun P' H' e => h _ P' H' [] e (.bl d) Fresh.nil
def sNotV (S : Env → Res D) : Env → Res D := sB (sNot (sTest S))
theorem e_not {S : Env → Res D} (h : EOk X W a S) : EOk X W (.UnaryOp .Not a pos) (sNotV S) := ⟨PE.imp (pe_not h.pe) fun σ H Q q => by
  have q1 := val_of q
  obtain ⟨P, ρ, A, st, q1⟩ := q1
  have q2 : tT (gd X) W (sTest S) σ H fun k H' => Q (.bl (!k)) H' := ⟨P, ρ, A, st, by
    unfold sNot at q1
    cases hs : sTest S ρ <;> simp only [hs, Res.bind] at q1 <;> exact q1⟩
  exact test_of q2⟩
def sAnd (Sa Sb : Env → Res D) : Env → Res D := fun ρ => (Sa ρ).bind fun x => (asB x).bind fun k => if k = true then Sb ρ else .ok (.bl false)
def sOr (Sa Sb : Env → Res D) : Env → Res D := fun ρ => (Sa ρ).bind fun x => (asB x).bind fun k => if k = true then .ok (.bl true) else Sb ρ
theorem e_one {op : BoolOp} (h : EOk X W a Sa) : EOk X W (.BoolOp op [a] pos) Sa := ⟨pe_one h.pe⟩
theorem e_and {r : List Expr} (ha : EOk X W a Sa) (hb : EOk X W (.BoolOp .And (b :: r) pos) Sb) : EOk X W (.BoolOp .And (a :: b :: r) pos) (sAnd Sa Sb) := ⟨PE.imp (pe_and ha.pe hb.pe) fun σ H Q ⟨P, ρ, A, st, q⟩ => ⟨P, ρ, A, st, by
  unfold sAnd at q
  cases hs : Sa ρ with
  | bad => simp only [hs, Res.bind] at q
  | exc x => simp only [hs, Res.bind] at q; exact q
  | ok d =>
    simp only [hs, Res.bind] at q
    intro v P1 H1 B e1 r f
    cases d with
    | bl k =>
      cases r
      refine ⟨k, rfl, ?_⟩
      cases k with
      | false => simp only [asB, Bool.false_eq_true, if_false] at q ⊢; exact q _ P1 H1 [] e1 (.bl false) Fresh.nil
      | true =>
        simp only [asB, if_true] at q ⊢
        refine ⟨P1, ρ, A, st.ext e1, ?_⟩
        cases ht : Sb ρ with
        | bad => simp only [ht] at q
        | exc x => simp only [ht] at q; exact PostX.ext q st.und e1
        | ok k' => simp only [ht] at q; exact Post.ext q st.und e1
    | _ => simp only [asB] at q⟩⟩
theorem e_or {r : List Expr} (ha : EOk X W a Sa) (hb : EOk X W (.BoolOp .Or (b :: r) pos) Sb) : EOk X W (.BoolOp .Or (a :: b :: r) pos) (sOr Sa Sb) := ⟨PE.imp (pe_or ha.pe hb.pe) fun σ H Q ⟨P, ρ, A, st, q⟩ => ⟨P, ρ, A, st, by
  unfold sOr at q
  cases hs : Sa ρ with
  | bad => simp only [hs, Res.bind] at q
  | exc x => simp only [hs, Res.bind] at q; exact q
  | ok d =>
    simp only [hs, Res.bind] at q
    intro v P1 H1 B e1 r f
    cases d with
    | bl k =>
      cases r
      refine ⟨k, rfl, ?_⟩
      cases k with
      | true => simp only [asB, if_true] at q ⊢; exact q _ P1 H1 [] e1 (.bl true) Fresh.nil
      | false =>
        simp only [asB, Bool.false_eq_true, if_false] at q ⊢
        refine ⟨P1, ρ, A, st.ext e1, ?_⟩
        cases ht : Sb ρ with
        | bad => simp only [ht] at q
        | exc x => simp only [ht] at q; exact PostX.ext q st.und e1
        | ok k' => simp only [ht] at q; exact Post.ext q st.und e1
    | _ => simp only [asB] at q⟩⟩
def sNil : Env → Res (List D) := fun _ => .ok []
def sCons (S : Env → Res D) (T : Env → Res (List D)) : Env → Res (List D) := fun ρ => (S ρ).bind fun d => (T ρ).bind fun ds => .ok (d :: ds)
theorem a_nil : AOk X W [] sNil := ⟨PA.imp pa_nil fun σ H Q ⟨P, ρ, A, st, q⟩ => q [] P H [] (Ext.refl st.und) .nil Fresh.nil⟩
theorem ab_nil : ABOk X W [] sNil := ⟨PA.imp pa_nil fun σ H Q ⟨P, ρ, A, st, q⟩ => q [] P H [] (Ext.refl st.und) .nil fun b h => by simp at h⟩
theorem a_cons {es : List Expr} {S : Env → Res D} {T : Env → Res (List D)} (h : EOk X W e S) (t : AOk X W es T) (hs : starEach (e :: es) X.env = (false, eval e X.env) :: starEach es X.env := by rfl) : AOk X W (e :: es) (sCons S T) := ⟨PA.imp (pa_cons h.pe t.pa hs) fun σ H Q ⟨P, ρ, A, st, q⟩ => ⟨P, ρ, A, st, by
  unfold sCons at q
  cases hs : S ρ with
  | bad => simp only [hs, Res.bind] at q
  | exc x => simp only [hs, Res.bind] at q; exact q
  | ok d =>
    simp only [hs, Res.bind] at q
    intro v P1 H1 B1 e1 r1 f1
    refine ⟨P1, ρ, A, st.ext e1, ?_⟩
    cases ht : T ρ with
    | bad => simp only [ht] at q
    | exc x => simp only [ht] at q; exact PostX.ext q st.und e1
    | ok ds =>
      simp only [ht] at q
      intro vs P2 H2 B2 e2 r2 f2
      have o1 : ∀ b ∈ B1, P1 b = none := fun b hb => (f1.2 b hb).2
      refine q _ P2 H2 (B1 ++ B2) (e1.trans st.und e2) (.cons (r1.ext e2 o1) r2) ⟨?_, fun b hb => ?_⟩
      · refine List.nodup_append.mpr ⟨f1.1, f2.1, fun x hx y hy z => ?_⟩
        obtain ⟨o, ho⟩ := r1.at x hx
        rw [z, (f2.2 y hy).1] at ho; cases ho
      · rcases List.mem_append.mp hb with hb | hb
        · exact ⟨(f1.2 b hb).1, (e2.own r1.at o1).2 b hb⟩
        · exact ⟨e1.free st.und (f2.2 b hb).1, (f2.2 b hb).2⟩⟩⟩
theorem ab_cons {es : List Expr} {S : Env → Res D} {T : Env → Res (List D)} (h : BOk X W e S) (t : ABOk X W es T) (hs : starEach (e :: es) X.env = (false, eval e X.env) :: starEach es X.env := by rfl) : ABOk X W (e :: es) (sCons S T) := ⟨PA.imp (pa_cons h.pe t.pa hs) fun σ H Q ⟨P, ρ, A, st, q⟩ => ⟨P, ρ, A, st, by
  unfold sCons at q
  cases hs : S ρ with
  | bad => simp only [hs, Res.bind] at q
  | exc x => simp only [hs, Res.bind] at q; exact q
  | ok d =>
    simp only [hs, Res.bind] at q
    intro v P1 H1 B1 e1 r1 o1
    refine ⟨P1, ρ, A, st.ext e1, ?_⟩
    cases ht : T ρ with
    | bad => simp only [ht] at q
    | exc x => simp only [ht] at q; exact PostX.ext q st.und e1
    | ok ds =>
      simp only [ht] at q
      intro vs P2 H2 B2 e2 r2 f2
      refine q _ P2 H2 (B1 ++ B2) (e1.trans st.und e2) (.cons (r1.ext e2 o1) r2) fun b hb => ?_
      rcases List.mem_append.mp hb with hb | hb
      · exact (e2.own r1.at o1).2 b hb
      · exact f2 b hb⟩⟩
end
end RL
namespace RL
open PySem PySem.Spec PyProof.Rows L2
section
variable {G : Gd} {P H : Hp} {p : Addr} {o : HO}
theorem Under.free (u : Under P H) (h : H p = none) : P p = none := by
  cases q : P p with
  | none => rfl
  | some w =>
    rcases u _ _ q with r | ⟨_, _, _, r⟩ | ⟨_, _, _, r, _⟩
    · rw [h] at r; cases r
    · rw [h] at r; cases r
    · rw [h] at r; cases r
theorem ext_own (u : Under P H) (h : H p = none) : Ext P H P (upd H p o) [] where
  same := Same.refl P
  und := fun a w q => by
    have hp : a ≠ p := fun e => by rw [e, u.free h] at q; cases q
    rw [upd_ne hp]; exact u a w q
  keep := fun b w q _ _ => by rw [upd_ne (ne_of_none q h)]; exact q
  lck := fun b o u q => by rw [upd_ne (ne_of_none q h)]; exact q
  new := fun b w q => .inl q
theorem ext_fix (u : Under P H) (h : H p = none) : Ext P H (upd P p o) (upd H p o) [] where
  same := fun b w q => by rw [upd_ne (ne_of_none q (u.free h))]; exact q
  und := fun a w q => by
    by_cases e : a = p
    · subst e; rw [upd_same] at q ⊢; exact .inl q
    · rw [upd_ne e] at q ⊢
      rcases u a w q with z | z | ⟨q', ps, z1, z2, z3, z4⟩
      · exact .inl z
      · exact .inr (.inl z)
      · refine .inr (.inr ⟨q', ps, z1, z2, z3, fun pos cv hc => ?_⟩)
        obtain ⟨c, e1, e2⟩ := z4 pos cv hc
        exact ⟨c, e1, by rw [upd_ne (ne_of_none e2 (u.free h))]; exact e2⟩
  keep := fun b w q _ _ => by rw [upd_ne (ne_of_none q h)]; exact q
  lck := fun b o u q => by rw [upd_ne (ne_of_none q h)]; exact q
  new := fun b w q => by
    by_cases e : b = p
    · subst e; exact .inr (.inl h)
    · rw [upd_ne e] at q; exact .inl q
theorem post_val {Q : VK} {v : V} {d : D} (u : Under P H) (h : Post G P H Q d) (r : Rel G P H v d []) : Q v H := h v P H [] (Ext.refl u) r Fresh.nil
theorem fresh1 (u : Under P H) (h : H p = none) : Fresh P H [p] := ⟨by simp, fun b hb => by
  have e : b = p := by simpa using hb
  subst e; exact ⟨h, u.free h⟩⟩
theorem post_lst {Q : VK} {ds : List D} {xs : List V} (u : Under P H) (h : Post G P H Q (.lst true ds)) (r : RelL G P H xs ds []) (hp : H p = none) : Q (.ref p) (upd H p (.lst xs)) :=
  h _ _ _ _ (ext_own u hp) (.lstO upd_same (r.mono (Same.refl P) (by simp))) (fresh1 u hp)
theorem post_tup {Q : VK} {ds : List D} {xs : List V} (u : Under P H) (h : Post G P H Q (.tup ds)) (r : RelL G P H xs ds []) (hp : H p = none) : Q (.ref p) (upd H p (.tup xs)) :=
  h _ _ _ _ (ext_fix u hp) (.tup (SqT.of upd_same) (r.mono (ext_fix (o := .tup xs) u hp).same (by simp))) Fresh.nil
theorem RelL.append {G : Gd} {P H : Hp} : ∀ {xs ys : List V} {ds es : List D}, RelL G P H xs ds [] → RelL G P H ys es [] → RelL G P H (xs ++ ys) (ds ++ es) []
  | _, _, _, _, r, t => by
    generalize hA : ([] : List Addr) = A at r
    induction r using RelL.rec (motive_1 := fun _ _ _ _ => True) with
    | nil => exact t
    | cons r1 r2 _ ih =>
      have e := List.append_eq_nil_iff.mp hA.symm
      obtain ⟨rfl, rfl⟩ := e
      exact .cons (A := []) (B := []) r1 (ih rfl)
    | _ => trivial
end
section
variable {G : Gd} {P H : Hp}
theorem RelL.nil_of : ∀ {xs : List V} {ds : List D} {A : List Addr}, RelL G P H xs ds A → cleanL ds = true → RelL G P H xs ds [] := fun {xs ds A} r h => by
  have e := r.clean h
  subst e
  exact r
end
def keyPy : Key → PyData
  | .inl i => .int i
  | .inr x => .str x
mutual
def D.py : D → PyData
  | .non => .none
  | .bl b => .bool b
  | .int i => .int i
  | .str x => .str x
  | .tup ds => .tuple (pyL ds)
  | .lst _ ds => .list (pyL ds)
  | .dct _ ks ds => .dict ((ks.map keyPy).zip (pyL ds))
  | _ => .none
def pyL : List D → List PyData
  | [] => []
  | d :: ds => d.py :: pyL ds
end
def fitN : Nat → D → Bool
  | _, .non => true
  | _, .bl _ => true
  | _, .int _ => true
  | _, .str x => PyData.strOk x
  | n + 1, .tup ds => ds.all (fitN n)
  | n + 1, .lst _ ds => ds.all (fitN n)
  | _, _ => false
theorem pyL_eq : ∀ ds : List D, pyL ds = ds.map D.py
  | [] => rfl
  | d :: ds => by rw [pyL, pyL_eq ds, List.map_cons]
theorem canLayAll_of : ∀ {ds : List PyData}, (∀ d ∈ ds, d.canLay0 = true) → PyData.canLayAll0 ds = true
  | [], _ => rfl
  | d :: ds, h => by
    rw [PyData.canLayAll0, h d List.mem_cons_self, canLayAll_of fun e he => h e (List.mem_cons_of_mem _ he)]
    rfl
theorem depthAll_of {n : Nat} : ∀ {ds : List PyData}, (∀ d ∈ ds, d.depth ≤ n) → PyData.depthAll ds ≤ n
  | [], _ => by simp [PyData.depthAll]
  | d :: ds, h => by
    have h1 := h d List.mem_cons_self
    have h2 := depthAll_of fun e he => h e (List.mem_cons_of_mem d he)
    simp only [PyData.depthAll]
    omega
theorem fitN_ok : ∀ {n : Nat} {d : D}, fitN n d = true → d.py.canLay0 = true ∧ d.py.depth ≤ n + 1
  | n, .non, _ => by simp [D.py, PyData.canLay0, PyData.depth]
  | n, .bl b, _ => by simp [D.py, PyData.canLay0, PyData.depth]
  | n, .int b, _ => by simp [D.py, PyData.canLay0, PyData.depth]
  | n, .str x, h => by
    refine ⟨?_, by simp [D.py, PyData.depth]⟩
    cases n <;> simpa [fitN, D.py, PyData.canLay0] using h
  | 0, .tup ds, h => by simp [fitN] at h
  | n + 1, .tup ds, h => by
    have h' : ∀ d ∈ ds, fitN n d = true := by simpa [fitN] using h
    have q : ∀ d ∈ ds.map D.py, d.canLay0 = true ∧ d.depth ≤ n + 1 := fun d hd => by
      obtain ⟨e, he, rfl⟩ := List.mem_map.mp hd
      exact fitN_ok (h' e he)
    simp only [D.py, pyL_eq, PyData.canLay0, PyData.depth]
    refine ⟨canLayAll_of fun d hd => (q d hd).1, ?_⟩
    have := depthAll_of fun d hd => (q d hd).2
    omega
  | 0, .lst _ ds, h => by simp [fitN] at h
  | n + 1, .lst _ ds, h => by
    have h' : ∀ d ∈ ds, fitN n d = true := by simpa [fitN] using h
    have q : ∀ d ∈ ds.map D.py, d.canLay0 = true ∧ d.depth ≤ n + 1 := fun d hd => by
      obtain ⟨e, he, rfl⟩ := List.mem_map.mp hd
      exact fitN_ok (h' e he)
    simp only [D.py, pyL_eq, PyData.canLay0, PyData.depth]
    refine ⟨canLayAll_of fun d hd => (q d hd).1, ?_⟩
    have := depthAll_of fun d hd => (q d hd).2
    omega
  | 0, .dct _ _ _, h => by simp [fitN] at h
  | n + 1, .dct _ _ _, h => by simp [fitN] at h
  | 0, .obj _ _ _ _, h => by simp [fitN] at h
  | n + 1, .obj _ _ _ _, h => by simp [fitN] at h
  | 0, .exn _ _ _, h => by simp [fitN] at h
  | n + 1, .exn _ _ _, h => by simp [fitN] at h
  | 0, .scr _, h => by simp [fitN] at h
  | n + 1, .scr _, h => by simp [fitN] at h
  | 0, .tux _, h => by simp [fitN] at h
  | n + 1, .tux _, h => by simp [fitN] at h
def D.fit (d : D) : Bool := fitN 60 d
theorem fit_ok {d : D} (h : d.fit = true) : SeqAt.shaped d.py = true := by
  obtain ⟨h1, h2⟩ := fitN_ok h
  unfold SeqAt.shaped
  rw [h1, decide_eq_true (show d.py.depth ≤ 64 by omega)]
  rfl
section
variable {G : Gd} {P H : Hp}
mutual
theorem Rel.dp (u : Under P H) : ∀ {n : Nat} {v : V} {d : D} {A : List Addr}, Rel G P H v d A → fitN n d = true → Dp G.K H v d.py
  | n, _, _, _, .non, _ => by rw [D.py]; exact .non
  | n, _, _, _, .bl b, _ => by rw [D.py]; exact .bl b
  | n, _, _, _, .int b, _ => by rw [D.py]; exact .int b
  | n, _, _, _, .str b, _ => by rw [D.py]; exact .str b
  | 0, _, _, _, .tup q r, h => by simp [fitN] at h
  | n + 1, _, _, _, .tup q r, h => by rw [D.py]; exact .tup (u.seqT q) (RelL.dp (n := n) u r (by simpa [fitN] using h))
  | 0, _, _, _, .lstF q r, h => by simp [fitN] at h
  | n + 1, _, _, _, .lstF q r, h => by rw [D.py]; exact .lst (u.seqL (SqL.of q)) (RelL.dp (n := n) u r (by simpa [fitN] using h))
  | 0, _, _, _, .lstO q r, h => by simp [fitN] at h
  | n + 1, _, _, _, .lstO q r, h => by rw [D.py]; exact .lst (SqL.of q) (RelL.dp (n := n) u r (by simpa [fitN] using h))
  | n, _, _, _, .scr _, h => by cases n <;> simp [fitN] at h
  | n, _, _, _, .tux _ _ _, h => by cases n <;> simp [fitN] at h
  | n, _, _, _, .dctF _ _ _, h => by cases n <;> simp [fitN] at h
  | n, _, _, _, .dctO _ _ _, h => by cases n <;> simp [fitN] at h
  | n, _, _, _, .objF _ _ _ _, h => by cases n <;> simp [fitN] at h
  | n, _, _, _, .objO _ _ _ _, h => by cases n <;> simp [fitN] at h
  | n, _, _, _, .exn _ _ _, h => by cases n <;> simp [fitN] at h
theorem RelL.dp (u : Under P H) : ∀ {n : Nat} {vs : List V} {ds : List D} {A : List Addr}, RelL G P H vs ds A → (∀ d ∈ ds, fitN n d = true) → DpAll G.K H vs (pyL ds)
  | n, _, _, _, .nil, _ => by rw [pyL]; exact .nil
  | n, _, _, _, .cons r t, h => by rw [pyL]; exact .cons (Rel.dp u r (h _ List.mem_cons_self)) (RelL.dp u t fun d hd => h d (List.mem_cons_of_mem _ hd))
end
end
def sml (i : Int) : Bool := decide (i.natAbs.log2 < 1900)
def opAdd : D → D → Option D
  | .int i, .int j => some (.int (i + j))
  | .str x, .str y => if x.length + y.length ≤ sizeLine then some (.str (x ++ y)) else none
  | .lst _ xs, .lst _ ys => if cleanL xs = true ∧ cleanL ys = true ∧ xs.length + ys.length ≤ sizeLine then some (.lst true (xs ++ ys)) else none
  | .tup xs, .tup ys => if cleanL xs = true ∧ cleanL ys = true ∧ xs ≠ [] ∧ xs.length + ys.length ≤ sizeLine then some (.tup (xs ++ ys)) else none
  | _, _ => none
def opSub : D → D → Option D
  | .int i, .int j => some (.int (i - j))
  | _, _ => none
def mulOk (i j : Int) : Bool := decide (-(2 ^ 64) < i ∧ i < 2 ^ 64) || decide (-(2 ^ 64) < j ∧ j < 2 ^ 64) || (sml i && sml j)
def opMul : D → D → Option D
  | .int i, .int j => if mulOk i j = true then some (.int (i * j)) else none
  | .lst _ ds, .int k => if cleanL ds = true ∧ -(2 ^ 63) ≤ k ∧ k < 2 ^ 63 ∧ ds.length * k.toNat ≤ sizeLine then some (.lst true (List.replicate k.toNat ds).flatten) else none
  | _, _ => none
def opFdiv : D → D → Option D
  | .int i, .int j => if j ≠ 0 ∧ sml j = true then some (.int (i.fdiv j)) else none
  | _, _ => none
def opMod : D → D → Option D
  | .int i, .int j => if j ≠ 0 then some (.int (i.fmod j)) else none
  | _, _ => none
def opLt : D → D → Option D
  | .int i, .int j => some (.bl (decide (i < j)))
  | _, _ => none
def opLe : D → D → Option D
  | .int i, .int j => some (.bl (decide (i ≤ j)))
  | _, _ => none
def opGt : D → D → Option D
  | .int i, .int j => some (.bl (decide (j < i)))
  | _, _ => none
def opGe : D → D → Option D
  | .int i, .int j => some (.bl (decide (j ≤ i)))
  | _, _ => none
def strs? : D → D → Option Bool
  | .str x, .str y => some (decide (x = y))
  | _, _ => none
theorem strs_of {x y : D} {b : Bool} (h : strs? x y = some b) : ∃ a c, x = .str a ∧ y = .str c ∧ b = decide (a = c) := by
  unfold strs? at h
  split at h
  · exact ⟨_, _, rfl, rfl, (Option.some.inj h).symm⟩
  · cases h
def opEq : D → D → Option D := fun x y => match strs? x y with
  | some b => some (.bl b)
  | none => if x.fit = true ∧ y.fit = true then some (.bl (PyData.eqv x.py y.py)) else none
def opNe : D → D → Option D := fun x y => match strs? x y with
  | some b => some (.bl (!b))
  | none => if x.fit = true ∧ y.fit = true then some (.bl (!PyData.eqv x.py y.py)) else none
def isNon : D → Bool
  | .non => true
  | _ => false
def opIs : D → D → Option D
  | d, .non => some (.bl (isNon d))
  | .bl a, .bl b => some (.bl (decide (a = b)))
  | _, _ => none
def opIsNot : D → D → Option D
  | d, .non => some (.bl (!isNon d))
  | .bl a, .bl b => some (.bl (!decide (a = b)))
  | _, _ => none
section
variable {X : Cx} {k : Nat}
theorem is_non {G : Gd} {P H : Hp} {v : V} {d : D} {A : List Addr} (r : Rel G P H v d A) : decide (v = .non) = isNon d := by
  cases r <;> simp [isNon]
theorem o_sub : OpR X (binaryOp .Sub) (rD (gd X) opSub) := by
  intro pins s σ H x y v u Q I rx ry ⟨P, dx, dy, Bx, By, un, r1, r2, o1, o2, h⟩
  cases r1 <;> first | exact h.elim | skip
  cases r2 <;> first | exact h.elim | skip
  exact op_sub pins s σ H _ _ _ _ Q I rx ry ⟨_, _, rfl, rfl, post_val un h (.int _)⟩
theorem o_add : OpR X (binaryOp .Add) (rD (gd X) opAdd) := by
  intro pins s σ H x y v u Q I rx ry ⟨P, dx, dy, Bx, By, un, r1, r2, o1, o2, h⟩
  have lst : ∀ {a b : Addr} {xs ys : List V} {ds es : List D} {A B : List Addr}, H a = some (.lst xs) → RelL (gd X) P H xs ds A → H b = some (.lst ys) → RelL (gd X) P H ys es B → RelV (.ref a) v → RelV (.ref b) u →
      (match (if cleanL ds = true ∧ cleanL es = true ∧ ds.length + es.length ≤ sizeLine then some (D.lst true (ds ++ es)) else none) with | some d => Post (gd X) P H Q d | none => False) → wpAny (model X.prog X.w) X.A (binaryOp .Add v u) (EP X pins σ Q) X.xe s := by
    intro a b xs ys ds es A B e1 q1 e2 q2 rx ry h
    split at h
    · rename_i d hd
      split at hd
      · rename_i c
        cases hd
        exact op_cat pins s σ H _ _ _ _ Q I rx ry ⟨a, b, xs, ys, rfl, rfl, e1, e2, by rw [q1.length, q2.length]; exact c.2.2, fun p hp => post_lst un h ((q1.nil_of c.1).append (q2.nil_of c.2.1)) hp⟩
      · cases hd
    · exact h.elim
  have fl : ∀ {a : Addr} {xs : List V}, P a = some (.lst xs) → H a = some (.lst xs) := fun {a xs} e => by
    rcases un _ _ e with z | ⟨_, _, z, _⟩ | ⟨_, _, z, _⟩
    · exact z
    · cases z
    · cases z
  cases r1 with
  | int i =>
    cases r2 <;> first | exact h.elim | skip
    exact op_add pins s σ H _ _ _ _ Q I rx ry ⟨_, _, rfl, rfl, post_val un h (.int _)⟩
  | str i =>
    cases r2 <;> first | exact h.elim | skip
    rename_i j
    simp only [opAdd] at h
    split at h
    · rename_i d hd
      split at hd
      · rename_i c
        cases hd
        exact op_add_str pins s σ H _ _ _ _ Q I rx ry ⟨_, _, rfl, rfl, c, post_val un h (.str _)⟩
      · cases hd
    · exact h.elim
  | lstF e1 q1 =>
    cases r2 <;> first | exact h.elim | skip
    · rename_i e2 q2; exact lst (fl e1) q1 (fl e2) q2 rx ry h
    · rename_i e2 q2; exact lst (fl e1) q1 e2 q2 rx ry h
  | lstO e1 q1 =>
    cases r2 <;> first | exact h.elim | skip
    · rename_i e2 q2; exact lst e1 q1 (fl e2) q2 rx ry h
    · rename_i e2 q2; exact lst e1 q1 e2 q2 rx ry h
  | tup e1 q1 =>
    cases r2 <;> first | exact h.elim | skip
    rename_i e2 q2
    simp only [opAdd] at h
    split at h
    · rename_i d hd
      split at hd
      · rename_i c
        cases hd
        have n1 := q1.length
        have n2 := q2.length
        refine op_catT pins s σ H _ _ _ _ Q I rx ry ⟨_, _, _, _, rfl, rfl, un.seqT e1, un.seqT e2, ?_, by rw [n1, n2]; exact c.2.2.2, ?_⟩
        · intro z; rw [z] at n1; exact c.2.2.1 (List.eq_nil_of_length_eq_zero n1.symm)
        · refine ⟨fun z => ?_, fun _ p hp => post_tup un h ((q1.nil_of c.1).append (q2.nil_of c.2.1)) hp⟩
          rw [z] at n2
          have z2 := List.eq_nil_of_length_eq_zero n2.symm
          rw [z2, List.append_nil] at h
          exact post_val un h (.tup e1 (q1.nil_of c.1))
      · cases hd
    · exact h.elim
  | _ => exact h.elim
theorem RelL.rep {G : Gd} {P H : Hp} {xs : List V} {ds : List D} (r : RelL G P H xs ds []) : ∀ n : Nat, RelL G P H (List.replicate n xs).flatten (List.replicate n ds).flatten []
  | 0 => .nil
  | n + 1 => by
    rw [List.replicate_succ, List.replicate_succ, List.flatten_cons, List.flatten_cons]
    exact r.append (RelL.rep r n)
theorem o_mul : OpR X (binaryOp .Mult) (rD (gd X) opMul) := by
  intro pins s σ H x y v u Q I rx ry ⟨P, dx, dy, Bx, By, un, r1, r2, o1, o2, h⟩
  have lst : ∀ {a : Addr} {xs : List V} {ds : List D} {A : List Addr}, H a = some (.lst xs) → RelL (gd X) P H xs ds A → RelV (.ref a) v → (match opMul (.lst true ds) dy with | some d => Post (gd X) P H Q d | none => False) → wpAny (model X.prog X.w) X.A (binaryOp .Mult v u) (EP X pins σ Q) X.xe s := by
    intro a xs ds A e1 q1 rx h
    cases r2 <;> first | exact h.elim | skip
    rename_i k _
    simp only [opMul] at h
    split at h
    · rename_i d hd
      split at hd
      · rename_i c
        cases hd
        exact op_rep pins s σ H _ _ _ _ Q I rx ry ⟨a, k, xs, rfl, rfl, e1, c.2.1, c.2.2.1, by rw [q1.length]; exact c.2.2.2, fun p hp => post_lst un h ((q1.nil_of c.1).rep _) hp⟩
      · cases hd
    · exact h.elim
  cases r1 <;> first | exact h.elim | skip
  case lstF e1 q1 =>
    refine lst ?_ q1 rx (by cases dy <;> exact h)
    rcases un _ _ e1 with z | ⟨_, _, z, _⟩ | ⟨_, _, z, _⟩
    · exact z
    · cases z
    · cases z
  case lstO e1 q1 => exact lst e1 q1 rx (by cases dy <;> exact h)
  cases r2 <;> first | exact h.elim | skip
  rename_i i j
  simp only [opMul] at h
  split at h
  · rename_i d hd
    split at hd
    · rename_i c
      cases hd
      simp only [mulOk, sml, Bool.or_eq_true, Bool.and_eq_true, decide_eq_true_eq] at c
      rcases c with (c | c) | c
      · exact op_mul pins s σ H _ _ _ _ Q I rx ry ⟨_, _, rfl, rfl, .inl c, post_val un h (.int _)⟩
      · exact op_mul pins s σ H _ _ _ _ Q I rx ry ⟨_, _, rfl, rfl, .inr c, post_val un h (.int _)⟩
      · exact op_mulW pins s σ H _ _ _ _ Q I rx ry ⟨_, _, rfl, rfl, (by show _ + _ < 1000000; omega), post_val un h (.int _)⟩
    · cases hd
  · exact h.elim
theorem o_fdiv : OpR X (binaryOp .FloorDiv) (rD (gd X) opFdiv) := by
  intro pins s σ H x y v u Q I rx ry ⟨P, dx, dy, Bx, By, un, r1, r2, o1, o2, h⟩
  cases r1 <;> first | exact h.elim | skip
  cases r2 <;> first | exact h.elim | skip
  rename_i i j
  simp only [opFdiv] at h
  split at h
  · rename_i d hd
    split at hd
    · rename_i c
      cases hd
      obtain ⟨t, rfl⟩ := rx
      obtain ⟨t', rfl⟩ := ry
      simp only [sml, decide_eq_true_eq] at c
      exact floordiv_int c.1 ⟨.int _, H, I.tok _, ⟨_, rfl⟩, post_val un h (.int _)⟩ (.inl (PyProof.noPylong_of_log2 (by omega)))
    · cases hd
  · exact h.elim
theorem o_mod : OpR X (binaryOp .Mod) (rD (gd X) opMod) := by
  intro pins s σ H x y v u Q I rx ry ⟨P, dx, dy, Bx, By, un, r1, r2, o1, o2, h⟩
  cases r1 <;> first | exact h.elim | skip
  cases r2 <;> first | exact h.elim | skip
  rename_i i j
  simp only [opMod] at h
  split at h
  · rename_i d hd
    split at hd
    · rename_i c
      cases hd
      exact op_modN pins s σ H _ _ _ _ Q I rx ry ⟨_, _, rfl, rfl, c, post_val un h (.int _)⟩
    · cases hd
  · exact h.elim
theorem o_lt : OpR X (compareOp .Lt) (rD (gd X) opLt) := by
  intro pins s σ H x y v u Q I rx ry ⟨P, dx, dy, Bx, By, un, r1, r2, o1, o2, h⟩
  cases r1 <;> first | exact h.elim | skip
  cases r2 <;> first | exact h.elim | skip
  exact op_lt pins s σ H _ _ _ _ Q I rx ry ⟨_, _, rfl, rfl, post_val un h (.bl _)⟩
theorem o_le : OpR X (compareOp .LtE) (rD (gd X) opLe) := by
  intro pins s σ H x y v u Q I rx ry ⟨P, dx, dy, Bx, By, un, r1, r2, o1, o2, h⟩
  cases r1 <;> first | exact h.elim | skip
  cases r2 <;> first | exact h.elim | skip
  exact op_le pins s σ H _ _ _ _ Q I rx ry ⟨_, _, rfl, rfl, post_val un h (.bl _)⟩
theorem o_gt : OpR X (compareOp .Gt) (rD (gd X) opGt) := by
  intro pins s σ H x y v u Q I rx ry ⟨P, dx, dy, Bx, By, un, r1, r2, o1, o2, h⟩
  cases r1 <;> first | exact h.elim | skip
  cases r2 <;> first | exact h.elim | skip
  exact op_gt pins s σ H _ _ _ _ Q I rx ry ⟨_, _, rfl, rfl, post_val un h (.bl _)⟩
theorem o_ge : OpR X (compareOp .GtE) (rD (gd X) opGe) := by
  intro pins s σ H x y v u Q I rx ry ⟨P, dx, dy, Bx, By, un, r1, r2, o1, o2, h⟩
  cases r1 <;> first | exact h.elim | skip
  cases r2 <;> first | exact h.elim | skip
  exact op_ge pins s σ H _ _ _ _ Q I rx ry ⟨_, _, rfl, rfl, post_val un h (.bl _)⟩
theorem o_eq (hr : Room k X.A) : OpR X (compareOp .Eq) (rD (gd X) opEq) := by
  intro pins s σ H x y v u Q I rx ry ⟨P, dx, dy, Bx, By, un, r1, r2, o1, o2, h⟩
  unfold opEq at h
  cases hst : strs? dx dy with
  | some b =>
    obtain ⟨a, c, rfl, rfl, rfl⟩ := strs_of hst
    rw [hst] at h
    cases r1
    cases r2
    refine op_eq pins s σ H _ _ _ _ Q I rx ry ⟨rfl, ?_⟩
    have e : decide (V.str a = V.str c) = decide (a = c) := decide_eq_decide.mpr ⟨fun z => V.str.inj z, fun z => congrArg V.str z⟩
    rw [e]
    exact post_val un h (.bl _)
  | none =>
    rw [hst] at h
    by_cases c : dx.fit = true ∧ dy.fit = true
    · simp only [c, and_self, if_true] at h
      exact op_eqD hr.units pins s σ H _ _ _ _ Q I rx ry ⟨_, _, r1.dp un c.1, r2.dp un c.2, fit_ok c.1, fit_ok c.2, post_val un h (.bl _)⟩
    · simp only [c, if_false] at h
theorem o_ne (hr : Room k X.A) : OpR X (compareOp .NotEq) (rD (gd X) opNe) := by
  intro pins s σ H x y v u Q I rx ry ⟨P, dx, dy, Bx, By, un, r1, r2, o1, o2, h⟩
  unfold opNe at h
  cases hst : strs? dx dy with
  | some b =>
    obtain ⟨a, c, rfl, rfl, rfl⟩ := strs_of hst
    rw [hst] at h
    cases r1
    cases r2
    refine op_ne pins s σ H _ _ _ _ Q I rx ry ⟨rfl, ?_⟩
    have e : decide (V.str a = V.str c) = decide (a = c) := decide_eq_decide.mpr ⟨fun z => V.str.inj z, fun z => congrArg V.str z⟩
    rw [e]
    exact post_val un h (.bl _)
  | none =>
    rw [hst] at h
    by_cases c : dx.fit = true ∧ dy.fit = true
    · simp only [c, and_self, if_true] at h
      exact op_neD hr.units pins s σ H _ _ _ _ Q I rx ry ⟨_, _, r1.dp un c.1, r2.dp un c.2, fit_ok c.1, fit_ok c.2, post_val un h (.bl _)⟩
    · simp only [c, if_false] at h
theorem o_is : OpR X (compareOp .Is) (rD (gd X) opIs) := by
  intro pins s σ H x y v u Q I rx ry ⟨P, dx, dy, Bx, By, un, r1, r2, o1, o2, h⟩
  cases r2 with
  | non =>
    have e := is_non r1
    refine op_isN pins s σ H _ _ _ _ Q I rx ry ⟨rfl, ?_⟩
    rw [e]
    cases r1 <;> exact post_val un h (.bl _)
  | bl b =>
    cases r1 <;> first | exact h.elim | skip
    exact op_isBl pins s σ H _ _ _ _ Q I rx ry ⟨_, _, rfl, rfl, post_val un h (.bl _)⟩
  | _ => cases r1 <;> exact h.elim
theorem o_isnot : OpR X (compareOp .IsNot) (rD (gd X) opIsNot) := by
  intro pins s σ H x y v u Q I rx ry ⟨P, dx, dy, Bx, By, un, r1, r2, o1, o2, h⟩
  cases r2 with
  | non =>
    have e := is_non r1
    refine op_notN pins s σ H _ _ _ _ Q I rx ry ⟨rfl, ?_⟩
    rw [e]
    cases r1 <;> exact post_val un h (.bl _)
  | bl b =>
    cases r1 <;> first | exact h.elim | skip
    exact op_notBl pins s σ H _ _ _ _ Q I rx ry ⟨_, _, rfl, rfl, post_val un h (.bl _)⟩
  | _ => cases r1 <;> exact h.elim
end
end RL
namespace RL
open PySem PySem.Spec PyProof.Rows L2
section
variable {G : Gd} {P H : Hp}
theorem atI_rel {vs : List V} {ds : List D} {A : List Addr} {i : Int} {d : D} (r : RelL G P H vs ds A) (e : atI ds i = some d) : ∃ v B, atI vs i = some v ∧ Rel G P H v d B ∧ ∀ b ∈ B, b ∈ A := by
  unfold atI at e ⊢
  rw [r.length]
  cases h : ixN ds.length i with
  | none => rw [h] at e; cases e
  | some j =>
    rw [h] at e
    exact r.get e
def lookD : List Key → List D → Key → Option D
  | k :: ks, d :: ds, j => if k = j then some d else lookD ks ds j
  | _, _, _ => none
theorem lookD_rel : ∀ {ks : List Key} {vs : List V} {ds : List D} {A : List Addr} {k : Key} {d : D}, RelL G P H vs ds A → ks.length = vs.length → lookD ks ds k = some d → ∃ v B, valV (ks.zip vs) k = some v ∧ Rel G P H v d B ∧ ∀ b ∈ B, b ∈ A
  | [], _, _, _, _, _, _, _, e => by simp [lookD] at e
  | _ :: _, [], _, _, _, _, _, h, _ => by simp at h
  | k :: ks, v :: vs, _, _, j, d, .cons (d := d0) (ds := ds) r t, h, e => by
    by_cases hk : k = j
    · have e' : d0 = d := by simpa [lookD, hk] using e
      subst e'
      refine ⟨v, _, ?_, r, fun b hb => List.mem_append_left _ hb⟩
      simp [valV, hk]
    · have e' : lookD ks ds j = some d := by simpa [lookD, hk] using e
      obtain ⟨w, B, h1, h2, h3⟩ := lookD_rel t (by simpa using h) e'
      refine ⟨w, B, ?_, h2, fun b hb => List.mem_append_right _ (h3 b hb)⟩
      unfold valV at h1 ⊢
      rw [List.zip_cons_cons, List.find?_cons_of_neg (by simpa using hk)]
      exact h1
end
def keyOf : D → Option Key
  | .int i => some (.inl i)
  | .str x => some (.inr x)
  | _ => none
def opIx : D → D → Option D
  | .tup ds, .int i => atI ds i
  | .lst _ ds, .int i => atI ds i
  | .scr ns, .int i => (atI ns i).map .int
  | .str z, .int i => if z.length ≤ sizeLine then (atI z.cps.toList i).map fun c => .str ⟨#[c]⟩ else none
  | .dct _ ks ds, k => (keyOf k).bind (lookD ks ds)
  | _, _ => none
def opIxS : D → D → Option D
  | .dct _ _ _, _ => none
  | d, e => opIx d e
def rDB (G : Gd) (f : D → D → Option D) : R2 := fun x y H Q => ∃ P dx dy Bx By, Under P H ∧ Rel G P H x dx Bx ∧ Rel G P H y dy By ∧ (∀ b ∈ Bx, P b = none) ∧ (∀ b ∈ By, P b = none) ∧ match f dx dy with
  | some d => PostB G P H Q d
  | none => False
section
variable {X : Cx} {W : WX} {a b e : Expr} {pos : Pos} {Sa Sb S : Env → Res D}
theorem twoB {f : D → D → Option D} {r : R2} (hr : ∀ x y H Q, rDB (gd X) f x y H Q → r x y H Q) {σ : Sl} {H : Hp} {Q : VK} (h : tBo (gd X) W (s2 f Sa Sb) σ H Q) : tOp r (tBo (gd X) W Sa) (tBo (gd X) W Sb) σ H Q := by
  obtain ⟨P, ρ, A, st, h⟩ := h
  refine ⟨P, ρ, A, st, ?_⟩
  unfold s2 at h
  cases ha : Sa ρ with
  | bad => simp only [ha, Res.bind] at h
  | exc x => simp only [ha, Res.bind] at h; exact h
  | ok dx =>
    simp only [ha, Res.bind] at h
    intro v P1 H1 B1 e1 r1 o1
    refine ⟨P1, ρ, A, st.ext e1, ?_⟩
    cases hb : Sb ρ with
    | bad => simp only [hb] at h
    | exc x => simp only [hb] at h; exact PostX.ext h st.und e1
    | ok dy =>
      simp only [hb] at h
      intro v2 P2 H2 B2 e2 r2 o2
      refine hr _ _ _ _ ⟨P2, dx, dy, B1, B2, e2.und, r1.ext e2 o1, r2, (e2.own r1.at o1).2, o2, ?_⟩
      cases hf : f dx dy with
      | none => simp only [hf, opt] at h
      | some d => simp only [hf, opt] at h; exact PostB.ext h st.und (e1.trans st.und e2)
theorem dget_of {x : V} {P H : Hp} {o : Bool} {ks : List Key} {ds : List D} {A : List Addr} (un : Under P H) (r : Rel (gd X) P H x (.dct o ks ds) A) : ∃ d vs B, x = .ref d ∧ Rd H d (.dK (ks.zip vs)) ∧ ks.length = vs.length ∧ RelL (gd X) P H vs ds B ∧ ∀ b ∈ B, b ∈ A := by
  cases r with
  | dctF q l r =>
    refine ⟨_, _, _, rfl, ?_, l, r, fun b hb => hb⟩
    rcases un _ _ q with z | ⟨ob, _, _, z⟩ | ⟨_, _, z, _⟩
    · exact .inl z
    · exact .inr ⟨ob, z⟩
    · cases z
  | dctO q l r => exact ⟨_, _, _, rfl, .inl q, l, r, fun b hb => List.mem_cons_of_mem _ hb⟩
theorem ix_ok {x y : V} {H : Hp} {Q : VK} (h : rDB (gd X) opIxS x y H Q) : rIx X.K x y H Q := by
  obtain ⟨P, dx, dy, Bx, By, un, r1, r2, o1, o2, h⟩ := h
  cases ho : opIxS dx dy with
  | none => rw [ho] at h; exact h.elim
  | some d =>
    rw [ho] at h
    cases r1 with
    | tup q r =>
      cases r2 <;> simp [opIxS, opIx] at ho
      obtain ⟨v, B, h1, h2, h3⟩ := atI_rel r ho
      exact .inr (.inl ⟨_, _, _, v, rfl, rfl, un.seqT q, h1, h v P H B (Ext.refl un) h2 fun b hb => o1 b (h3 b hb)⟩)
    | lstF q r =>
      cases r2 <;> simp [opIxS, opIx] at ho
      obtain ⟨v, B, h1, h2, h3⟩ := atI_rel r ho
      exact .inl ⟨_, _, _, v, rfl, rfl, un.seqL (SqL.of q), h1, h v P H B (Ext.refl un) h2 fun b hb => o1 b (h3 b hb)⟩
    | lstO q r =>
      cases r2 <;> simp [opIxS, opIx] at ho
      obtain ⟨v, B, h1, h2, h3⟩ := atI_rel r ho
      exact .inl ⟨_, _, _, v, rfl, rfl, SqL.of q, h1, h v P H B (Ext.refl un) h2 fun b hb => o1 b (List.mem_cons_of_mem _ (h3 b hb))⟩
    | scr q =>
      cases r2 <;> simp [opIxS, opIx] at ho
      obtain ⟨n, hn, rfl⟩ := ho
      refine .inl ⟨_, _, _, .int n, rfl, rfl, un.seqL q, ?_, h _ P H [] (Ext.refl un) (.int n) (fun b hb => by simp at hb)⟩
      unfold atI at hn ⊢
      rw [List.length_map]
      cases hi : ixN _ _ with
      | none => rw [hi] at hn; cases hn
      | some j =>
        rw [hi] at hn
        simp only [Option.bind] at hn ⊢
        rw [List.getElem?_map, hn]; rfl
    | str z =>
      cases r2 <;> simp [opIxS, opIx] at ho
      obtain ⟨c, n, hn, rfl⟩ := ho
      exact .inr (.inr ⟨_, _, n, rfl, rfl, c, hn, h _ P H [] (Ext.refl un) (.str _) (fun b hb => by simp at hb)⟩)
    | _ => cases r2 <;> simp [opIxS, opIx] at ho
def sIx (Sa Sb : Env → Res D) : Env → Res D := s2 opIx Sa Sb
theorem b_sub (hu : X.A.units + 1 < cLine) (ha : BOk X W a Sa) (hb : BOk X W b Sb) (hs : PlainIx b := by exact fun _ _ => rfl) : BOk X W (.Subscript a b pos) (sIx Sa Sb) :=
  ⟨PE.imp (PE.or (pe_ix ix_seq ha.pe hb.pe hs) (pe_dget hu ha.pe hb.pe hs)) fun σ H Q h => by
    obtain ⟨P, ρ, A, st, h'⟩ := id h
    cases hd : Sa ρ with
    | bad => simp only [sIx, s2, hd, Res.bind] at h'
    | exc x => exact .inl ⟨P, ρ, A, st, by rw [hd]; simp only [sIx, s2, hd, Res.bind] at h'; exact h'⟩
    | ok dx =>
      by_cases hdc : ∃ o ks ds, dx = .dct o ks ds
      · refine .inr ⟨P, ρ, A, st, ?_⟩
        rw [hd]
        obtain ⟨o, ks, ds, rfl⟩ := hdc
        simp only [sIx, s2, hd, Res.bind] at h'
        intro v P1 H1 B1 e1 r1 o1
        refine ⟨P1, ρ, A, st.ext e1, ?_⟩
        cases hb : Sb ρ with
        | bad => simp only [hb] at h'
        | exc x => simp only [hb] at h'; exact PostX.ext h' st.und e1
        | ok dy =>
          simp only [hb] at h'
          intro v2 P2 H2 B2 e2 r2 o2
          have r1' := r1.ext e2 o1
          obtain ⟨d, vs, B, rfl, hdk, hl, rl, hB⟩ := dget_of e2.und r1'
          cases hk : keyOf dy with
          | none => simp only [opIx, hk, Option.bind, opt] at h'
          | some k =>
            simp only [opIx, hk, Option.bind] at h'
            cases hlk : lookD ks ds k with
            | none => simp only [hlk, opt] at h'
            | some dv =>
              simp only [hlk, opt] at h'
              obtain ⟨w, C, hw, rw', hC⟩ := lookD_rel rl hl hlk
              refine ⟨d, w, rfl, .inl ⟨_, k, hdk, ?_, hw.symm⟩, PostB.ext h' st.und (e1.trans st.und e2) _ P2 H2 C (Ext.refl e2.und) rw' fun b hb => (e2.own r1.at o1).2 b (hB b (hC b hb))⟩
              cases r2 <;> simp [keyOf] at hk <;> subst hk <;> rfl
      · have hne : ∀ o ks ds, dx ≠ .dct o ks ds := fun o ks ds e => hdc ⟨o, ks, ds, e⟩
        have heq : s2 opIxS Sa Sb ρ = s2 opIx Sa Sb ρ := by
          simp only [s2, hd, Res.bind]
          cases Sb ρ with
          | ok dy => cases dx <;> first | exact absurd rfl (hne _ _ _) | rfl
          | exc x => rfl
          | bad => rfl
        refine .inl (twoB (f := opIxS) (fun x y H2 Q2 h2 => ix_ok h2) (Sa := Sa) (Sb := Sb) ⟨P, ρ, A, st, by rw [heq]; exact h'⟩)⟩
structure POk (X : Cx) (W : WX) (e : Option Expr) (S : Env → Res (Option Int)) : Prop where
  po : PO X e fun σ H Q => ∃ P ρ A, StRel (gd X) P H σ ρ A ∧ match S ρ with
    | .ok i => ∀ P' H', Ext P H P' H' [] → Q i H'
    | .exc x => PostX (gd X) P H W σ x
    | .bad => False
theorem PO.imp {X : Cx} {e : Option Expr} {t t' : TO} (h : PO X e t) (f : ∀ σ H Q, t' σ H Q → t σ H Q) : PO X e t' := ⟨fun pins s σ H Q I q => h.run pins s σ H Q I (f σ H Q q)⟩
def asI : D → Res Int
  | .int i => .ok i
  | _ => .bad
def sPn : Env → Res (Option Int) := fun _ => .ok none
def sPs (S : Env → Res D) : Env → Res (Option Int) := fun ρ => (S ρ).bind fun d => (asI d).bind fun i => .ok (some i)
theorem p_none : POk X W none sPn := ⟨PO.imp po_none fun σ H Q ⟨P, ρ, A, st, q⟩ => q P H (Ext.refl st.und)⟩
theorem p_some (h : BOk X W e S) : POk X W (some e) (sPs S) := ⟨PO.imp (po_some h.pe) fun σ H Q ⟨P, ρ, A, st, q⟩ => ⟨P, ρ, A, st, by
  unfold sPs at q
  cases hs : S ρ with
  | bad => simp only [hs, Res.bind] at q
  | exc x => simp only [hs, Res.bind] at q; exact q
  | ok d =>
    simp only [hs, Res.bind] at q
    intro v P' H' B e r f
    cases d with
    | int i => cases r; exact ⟨i, rfl, q P' H' e⟩
    | _ => simp only [asI] at q⟩⟩
def cutL {α : Type} (xs : List α) (lo hi : Option Int) : List α := (xs.drop (HT.sIx xs.length 0 lo)).take (HT.sIx xs.length xs.length hi - HT.sIx xs.length 0 lo)
theorem RelL.drop {G : Gd} {P H : Hp} : ∀ (n : Nat) {vs : List V} {ds : List D}, RelL G P H vs ds [] → RelL G P H (vs.drop n) (ds.drop n) [] := fun n {vs ds} r => by
  generalize hA : ([] : List Addr) = A at r
  induction n generalizing vs ds A with
  | zero => subst hA; exact r
  | succ n ih =>
    cases r with
    | nil => exact .nil
    | cons r1 r2 =>
      have e := List.append_eq_nil_iff.mp hA.symm
      obtain ⟨rfl, rfl⟩ := e
      exact ih _ rfl r2
theorem RelL.take {G : Gd} {P H : Hp} : ∀ (n : Nat) {vs : List V} {ds : List D}, RelL G P H vs ds [] → RelL G P H (vs.take n) (ds.take n) [] := fun n {vs ds} r => by
  generalize hA : ([] : List Addr) = A at r
  induction n generalizing vs ds A with
  | zero => subst hA; exact .nil
  | succ n ih =>
    cases r with
    | nil => exact .nil
    | cons r1 r2 =>
      have e := List.append_eq_nil_iff.mp hA.symm
      obtain ⟨rfl, rfl⟩ := e
      exact .cons (A := []) (B := []) r1 (ih _ rfl r2)
theorem RelL.cut {G : Gd} {P H : Hp} {vs : List V} {ds : List D} (r : RelL G P H vs ds []) (lo hi : Option Int) : RelL G P H (cutV vs lo hi) (cutL ds lo hi) [] := by
  unfold cutV cutL
  rw [r.length]
  exact RelL.take _ (RelL.drop _ r)
theorem ints_rel {G : Gd} {P H : Hp} : ∀ ns : List Int, RelL G P H (ns.map V.int) (ns.map D.int) []
  | [] => .nil
  | n :: ns => .cons (A := []) (B := []) (.int n) (ints_rel ns)
def opSl (d : D) (lo hi : Option Int) : Option D := match d with
  | .lst _ ds => if cleanL ds = true then some (.lst true (cutL ds lo hi)) else none
  | .tup ds => if cleanL ds = true ∧ ¬ (HT.sIx ds.length 0 lo = 0 ∧ HT.sIx ds.length ds.length hi = ds.length) then some (.tup (cutL ds lo hi)) else none
  | .str z => if z.length ≤ sizeLine then some (.str (cutS z lo hi)) else none
  | .scr ns => some (.lst true ((cutL ns lo hi).map .int))
  | _ => none
def sSl (S : Env → Res D) (L U : Env → Res (Option Int)) : Env → Res D := fun ρ => (S ρ).bind fun d => (L ρ).bind fun lo => (U ρ).bind fun hi => opt (opSl d lo hi)
theorem SlR.or {X : Cx} {r r' : V → Option Int → Option Int → Hp → VK → Prop} (h : SlR X r) (h' : SlR X r') : SlR X fun x lo hi H Q => r x lo hi H Q ∨ r' x lo hi H Q := by
  intro pins s σ H x v vl vu lo hi sl Q I rx hs pl pu q
  rcases q with q | q
  · exact h pins s σ H x v vl vu lo hi sl Q I rx hs pl pu q
  · exact h' pins s σ H x v vl vu lo hi sl Q I rx hs pl pu q
theorem e_slice {lo hi : Option Expr} {p2 : Pos} {L U : Env → Res (Option Int)} (he : BOk X W e S) (hl : POk X W lo L) (hh : POk X W hi U) : EOk X W (.Subscript e (.Slice lo hi none p2) pos) (sSl S L U) :=
  ⟨PE.imp (pe_slice (SlR.or sl_list (SlR.or sl_tup sl_str)) he.pe hl.po hh.po) fun σ H Q ⟨P, ρ, A, st, h⟩ => ⟨P, ρ, A, st, by
    unfold sSl at h
    cases hs : S ρ with
    | bad => simp only [hs, Res.bind] at h
    | exc x => simp only [hs, Res.bind] at h; exact h
    | ok d =>
      simp only [hs, Res.bind] at h
      intro v P1 H1 B1 e1 r1 o1
      refine ⟨P1, ρ, A, st.ext e1, ?_⟩
      cases hL : L ρ with
      | bad => simp only [hL] at h
      | exc x => simp only [hL] at h; exact PostX.ext h st.und e1
      | ok l =>
        simp only [hL] at h
        intro P2 H2 e2
        have e12 := e1.trans st.und e2
        refine ⟨P2, ρ, A, st.ext e12, ?_⟩
        cases hU : U ρ with
        | bad => simp only [hU] at h
        | exc x => simp only [hU] at h; exact PostX.ext h st.und e12
        | ok u =>
          simp only [hU] at h
          intro P3 H3 e3
          have e13 := e12.trans st.und e3
          have r3 := (r1.ext e2 o1).ext e3 (e2.own r1.at o1).2
          cases ho : opSl d l u with
          | none => simp only [ho, opt] at h
          | some z =>
            simp only [ho, opt] at h
            have q := Post.ext h st.und e13
            have un := e13.und
            clear h
            cases r3 with
            | tup q1 r =>
              simp only [opSl] at ho
              split at ho
              · rename_i c
                cases ho
                refine .inr (.inl ⟨_, _, rfl, un.seqT q1, ?_, fun p hp => post_tup un q ((r.nil_of c.1).cut l u) hp⟩)
                rw [r.length]; exact c.2
              · cases ho
            | lstF q1 r =>
              simp only [opSl] at ho
              split at ho
              · rename_i c
                cases ho
                exact .inl ⟨_, _, rfl, un.seqL (SqL.of q1), fun p hp => post_lst un q ((r.nil_of c).cut l u) hp⟩
              · cases ho
            | lstO q1 r =>
              simp only [opSl] at ho
              split at ho
              · rename_i c
                cases ho
                exact .inl ⟨_, _, rfl, SqL.of q1, fun p hp => post_lst un q ((r.nil_of c).cut l u) hp⟩
              · cases ho
            | @scr a0 ns q1 =>
              simp only [opSl] at ho
              cases ho
              refine .inl ⟨_, _, rfl, un.seqL q1, fun p hp => ?_⟩
              have e : cutV (ns.map V.int) l u = (cutL ns l u).map V.int := by
                unfold cutV cutL
                rw [List.length_map, List.map_take, List.map_drop]
              rw [e]
              exact post_lst un q (ints_rel _) hp
            | str x =>
              simp only [opSl] at ho
              split at ho
              · rename_i c
                cases ho
                exact .inr (.inr ⟨_, rfl, c, post_val un q (.str _)⟩)
              · cases ho
            | _ => simp [opSl] at ho⟩⟩
def s1 (f : D → Option D) (S : Env → Res D) : Env → Res D := fun ρ => (S ρ).bind fun d => opt (f d)
def sTup (S : Env → Res (List D)) : Env → Res D := fun ρ => (S ρ).bind fun ds => if ds.length ≤ sizeLine then .ok (.tup ds) else .bad
def sLst (S : Env → Res (List D)) : Env → Res D := fun ρ => (S ρ).bind fun ds => if ds.length ≤ sizeLine then .ok (.lst true ds) else .bad
theorem e_tup {es : List Expr} {k : Nat} {S : Env → Res (List D)} (h : AOk X W es S) : EOk X W (.Tuple es k pos) (sTup S) := ⟨PE.imp (pe_tup h.pa) fun σ H Q ⟨P, ρ, A, st, h⟩ => ⟨P, ρ, A, st, by
  unfold sTup at h
  cases hs : S ρ with
  | bad => simp only [hs, Res.bind] at h
  | exc x => simp only [hs, Res.bind] at h; exact h
  | ok ds =>
    simp only [hs, Res.bind] at h
    intro vs P1 H1 B e1 r f
    split at h
    · rename_i d hd
      split at hd
      · rename_i c
        cases hd
        refine ⟨by rw [r.length]; exact c, fun p hp => ?_⟩
        have e2 := ext_fix (o := .tup vs) e1.und hp
        have o1 : ∀ b ∈ B, P1 b = none := fun b hb => (f.2 b hb).2
        refine h _ _ _ B (e1.trans st.und e2) (.tup (SqT.of upd_same) (r.ext e2 o1)) ⟨f.1, fun b hb => ⟨(f.2 b hb).1, (e2.own r.at o1).2 b hb⟩⟩
      · cases hd
    · rename_i hd; split at hd <;> cases hd
    · exact h.elim⟩⟩
theorem e_lst {es : List Expr} {S : Env → Res (List D)} (h : AOk X W es S) : EOk X W (.List es pos) (sLst S) := ⟨PE.imp (pe_lst h.pa) fun σ H Q ⟨P, ρ, A, st, h⟩ => ⟨P, ρ, A, st, by
  unfold sLst at h
  cases hs : S ρ with
  | bad => simp only [hs, Res.bind] at h
  | exc x => simp only [hs, Res.bind] at h; exact h
  | ok ds =>
    simp only [hs, Res.bind] at h
    intro vs P1 H1 B e1 r f
    split at h
    · rename_i d hd
      split at hd
      · rename_i c
        cases hd
        refine ⟨by rw [r.length]; exact c, fun p hp => ?_⟩
        have e2 := ext_own (o := .lst vs) e1.und hp
        have o1 : ∀ b ∈ B, P1 b = none := fun b hb => (f.2 b hb).2
        have np : p ∉ B := fun hb => by
          obtain ⟨w, q⟩ := r.at p hb
          rw [hp] at q; cases q
        refine h _ _ _ (p :: B) (e1.trans st.und e2) (.lstO upd_same (r.ext e2 o1)) ⟨List.nodup_cons.mpr ⟨np, f.1⟩, fun b hb => ?_⟩
        rcases List.mem_cons.mp hb with rfl | hb
        · exact ⟨e1.free st.und hp, e1.und.free hp⟩
        · exact f.2 b hb
      · cases hd
    · rename_i hd; split at hd <;> cases hd
    · exact h.elim⟩⟩
def rC (G : Gd) (f : List D → Option D) : List V → Hp → VK → Prop := fun xs H Q => ∃ P ds B, Under P H ∧ RelL G P H xs ds B ∧ (∀ b ∈ B, P b = none) ∧ match f ds with
  | some d => Post G P H Q d
  | none => False
def sCall (f : List D → Option D) (S : Env → Res (List D)) : Env → Res D := fun ρ => (S ρ).bind fun ds => opt (f ds)
theorem call_of {f : List D → Option D} {S : Env → Res (List D)} {σ : Sl} {H : Hp} {Q : VK} (h : tE (gd X) W (sCall f S) σ H Q) : tCB (rC (gd X) f) (tLB (gd X) W S) σ H Q := by
  obtain ⟨P, ρ, A, st, h⟩ := h
  refine ⟨P, ρ, A, st, ?_⟩
  unfold sCall at h
  cases hs : S ρ with
  | bad => simp only [hs, Res.bind] at h
  | exc x => simp only [hs, Res.bind] at h; exact h
  | ok ds =>
    simp only [hs, Res.bind] at h
    intro vs P1 H1 B e1 r o
    refine ⟨P1, ds, B, e1.und, r, o, ?_⟩
    cases hf : f ds with
    | none => simp only [hf, opt] at h
    | some d => simp only [hf, opt] at h; exact Post.ext h st.und e1
theorem e_callB {id : String} {x : Str} {p : Pos} {es : List Expr} {f : List D → Option D} {S : Env → Res (List D)} (hc : CallR X (.builtin id) (rC (gd X) f)) (hm : X.mg x = none) (hv : bootBuiltins x = some (.builtin id)) (ha : ABOk X W (e :: es) S)
    (hg : Gl X x := by rfl) (hn : x ≠ "__name__" := by decide) (hdb : (x == ("__debug__" : Str)) = false := by decide)
    (he : starEach (e :: es) X.env = (false, eval e X.env) :: starEach es X.env := by rfl) (hpl : (backTo pos (starEach es X.env)).any (·.1) = false := by rfl) : EOk X W (.Call (.Name x p) (e :: es) [] pos) (sCall f S) :=
  ⟨PE.imp (pe_callB hc hg hm hv ha.pa hn hdb he hpl) fun _ _ _ h => call_of h⟩
theorem e_callTy {id : String} {x : Str} {p : Pos} {es : List Expr} {f : List D → Option D} {S : Env → Res (List D)} (hc : CallR X (.type id) (rC (gd X) f)) (hm : X.mg x = none) (hv : bootBuiltins x = some (.type id)) (ha : ABOk X W (e :: es) S)
    (hg : Gl X x := by rfl) (hn : x ≠ "__name__" := by decide) (hdb : (x == ("__debug__" : Str)) = false := by decide)
    (he : starEach (e :: es) X.env = (false, eval e X.env) :: starEach es X.env := by rfl) (hpl : (backTo pos (starEach es X.env)).any (·.1) = false := by rfl) : EOk X W (.Call (.Name x p) (e :: es) [] pos) (sCall f S) :=
  ⟨PE.imp (pe_callTy hc hg hm hv ha.pa hn hdb he hpl) fun _ _ _ h => call_of h⟩
end
end RL
namespace RL
open PySem PySem.Spec PyProof.Rows L2
inductive Tg where
  | nm (i : Nat)
  | tp (ts : List Tg)
mutual
def Tg.set : Tg → D → Env → Option Env
  | .nm i, d, ρ => if i < ρ.length then some (ρ.set i (some d)) else none
  | .tp ts, .tup ds, ρ => tgSetL ts ds ρ
  | .tp ts, .lst _ ds, ρ => tgSetL ts ds ρ
  | _, _, _ => none
def tgSetL : List Tg → List D → Env → Option Env
  | [], [], ρ => some ρ
  | t :: ts, d :: ds, ρ => (t.set d ρ).bind (tgSetL ts ds)
  | _, _, _ => none
end
mutual
def Tg.slots : Tg → List Nat
  | .nm i => [i]
  | .tp ts => tgSlots ts
def tgSlots : List Tg → List Nat
  | [] => []
  | t :: ts => t.slots ++ tgSlots ts
end
theorem tgSetL_len : ∀ {ts : List Tg} {ds : List D} {ρ ρ' : Env}, tgSetL ts ds ρ = some ρ' → ts.length = ds.length
  | [], [], _, _, _ => rfl
  | [], _ :: _, _, _, h => by simp [tgSetL] at h
  | _ :: _, [], _, _, h => by simp [tgSetL] at h
  | t :: ts, d :: ds, ρ, ρ', h => by
    simp only [tgSetL] at h
    cases e : t.set d ρ with
    | none => rw [e] at h; cases h
    | some r =>
      rw [e] at h
      have q := tgSetL_len (ts := ts) (ds := ds) (ρ := r) (ρ' := ρ') h
      simp only [List.length_cons]; omega
def tG (G : Gd) (t : Tg) : TG := fun x σ H Q => ∃ P ρ A d B, StRel G P H σ ρ A ∧ Rel G P H x d B ∧ (B ++ A).Nodup ∧ (∀ b ∈ B, P b = none) ∧ match t.set d ρ with
  | some ρ' => ∀ σ' A', StRel G P H σ' ρ' A' → (∀ b ∈ A', b ∈ B ++ A) → σ'.length = σ.length → (∀ j, j ∉ t.slots → σ'[j]? = σ[j]?) → Q σ' H
  | none => False
def tGL (G : Gd) (ts : List Tg) : TGs := fun xs σ H Q => ∃ P ρ A ds B, StRel G P H σ ρ A ∧ RelL G P H xs ds B ∧ (B ++ A).Nodup ∧ (∀ b ∈ B, P b = none) ∧ match tgSetL ts ds ρ with
  | some ρ' => ∀ σ' A', StRel G P H σ' ρ' A' → (∀ b ∈ A', b ∈ B ++ A) → σ'.length = σ.length → (∀ j, j ∉ tgSlots ts → σ'[j]? = σ[j]?) → Q σ' H
  | none => False
structure GOk (X : Cx) (tg : Expr) (t : Tg) : Prop where pg : PG X tg (tG (gd X) t)
structure GsOk (X : Cx) (tgs : List Expr) (ts : List Tg) : Prop where pgs : PGs X tgs (tGL (gd X) ts)
theorem PG.imp {X : Cx} {e : Expr} {t t' : TG} (h : PG X e t) (f : ∀ x σ H Q, t' x σ H Q → t x σ H Q) : PG X e t' := ⟨fun pins s σ H v u Q I r q => h.run pins s σ H v u Q I r (f v σ H Q q)⟩
theorem PGs.imp {X : Cx} {e : List Expr} {t t' : TGs} (h : PGs X e t) (f : ∀ x σ H Q, t' x σ H Q → t x σ H Q) : PGs X e t' := ⟨fun pins s σ H v u Q I r q => h.run pins s σ H v u Q I r (f v σ H Q q)⟩
section
variable {X : Cx} {W : WX} {e a b : Expr} {pos : Pos} {Sa Sb S : Env → Res D}
theorem StRel.store {G : Gd} {P H : Hp} {σ : Sl} {ρ : Env} {A B : List Addr} {i : Nat} {x : V} {d : D} (st : StRel G P H σ ρ A) (r : Rel G P H x d B) (nd : (B ++ A).Nodup) (o : ∀ b ∈ B, P b = none) (hi : i < ρ.length) :
    ∃ A', StRel G P H (σ.set i (some x)) (ρ.set i (some d)) A' ∧ ∀ b ∈ A', b ∈ B ++ A := by
  obtain ⟨B0, C, p, q, _⟩ := st.env.out hi
  obtain ⟨A', p', q'⟩ := q.put (i := i) r (by simpa using hi) (by simp [hi])
  rw [List.set_set] at q'
  have cA : ∀ b ∈ C, b ∈ A := fun b hb => p.symm.subset (List.mem_append_right _ hb)
  have sub : ∀ b ∈ A', b ∈ B ++ A := fun b hb => (List.mem_append.mp (p'.subset hb)).elim (List.mem_append_left _) fun z => List.mem_append_right _ (cA b z)
  obtain ⟨n1, n2, n3⟩ := List.nodup_append.mp nd
  refine ⟨A', ⟨st.und, q', p'.symm.nodup_iff.mp (List.nodup_append.mpr ⟨n1, (p.nodup_iff.mp n2).sublist (List.sublist_append_right _ _), fun x hx y hy => n3 x hx y (cA y hy)⟩), fun b hb => ?_, st.mks⟩, sub⟩
  rcases List.mem_append.mp (sub b hb) with z | z
  · exact o b z
  · exact st.off b z
theorem g_nm (i : Nat) {x : Str} {p : Pos} (hN : X.N.Nodup) (hi : X.N[i]? = some x := by rfl) (hx : Loc X.env.scope x := by first | exact Or.inl rfl | exact Or.inr rfl) (hf : X.fn x = true ∨ X.env.scope.names.lookup x = some .local := by first | exact .inl rfl | exact .inr rfl) : GOk X (.Name x p) (.nm i) :=
  ⟨PG.imp (pg_name hN hi hx hf) fun v σ H Q ⟨P, ρ, A, d, B, st, r, nd, o, h⟩ => by
    simp only [Tg.set] at h
    by_cases hl : i < ρ.length
    · rw [if_pos hl] at h
      obtain ⟨A', st', sub⟩ := st.store r nd o hl
      refine h _ A' st' sub (by simp) fun j hj => ?_
      have hne : i ≠ j := fun e => hj (by simp [Tg.slots, e])
      rw [List.getElem?_set_ne hne]
    · rw [if_neg hl] at h; exact h.elim⟩
theorem gs_nil : GsOk X [] [] := ⟨PGs.imp pgs_nil fun xs σ H Q ⟨P, ρ, A, ds, B, st, r, nd, o, h⟩ => by
  cases r with
  | nil => exact ⟨rfl, h σ A st (fun b hb => by simpa using hb) rfl fun _ _ => rfl⟩
  | cons _ _ => simp only [tgSetL] at h⟩
theorem gs_cons {es : List Expr} {t : Tg} {ts : List Tg} (h1 : GOk X e t) (h2 : GsOk X es ts) (hs : (assignEach (e :: es) X.env).map (·.2) = assign e X.env :: (assignEach es X.env).map (·.2) := by rfl) : GsOk X (e :: es) (t :: ts) :=
  ⟨PGs.imp (pgs_cons h1.pg h2.pgs hs) fun xs σ H Q ⟨P, ρ, A, ds, B, st, r, nd, o, h⟩ => by
    cases r with
    | nil => simp only [tgSetL] at h
    | @cons v d B1 vs ds B2 r1 r2 =>
      obtain ⟨m1, m2, m3⟩ := List.nodup_append.mp nd
      obtain ⟨l1, l2, l3⟩ := List.nodup_append.mp m1
      refine ⟨_, _, rfl, P, ρ, A, d, B1, st, r1, List.nodup_append.mpr ⟨l1, m2, fun x hx y hy => m3 x (List.mem_append_left _ hx) y hy⟩, fun b hb => o b (List.mem_append_left _ hb), ?_⟩
      simp only [tgSetL] at h
      cases ht : t.set d ρ with
      | none => rw [ht] at h; exact h.elim
      | some ρ1 =>
        rw [ht] at h
        simp only [Option.bind] at h
        intro σ1 A1 st1 sub1 len1 fr1
        refine ⟨P, ρ1, A1, ds, B2, st1, r2, List.nodup_append.mpr ⟨l2, st1.nd, fun x hx y hy e => ?_⟩, fun b hb => o b (List.mem_append_right _ hb), ?_⟩
        · rcases List.mem_append.mp (sub1 y hy) with z | z
          · exact l3 y z x hx e.symm
          · exact m3 x (List.mem_append_right _ hx) y z e
        · cases hq : tgSetL ts ds ρ1 with
          | none => rw [hq] at h; exact h.elim
          | some ρ2 =>
            rw [hq] at h
            intro σ2 A2 st2 sub2 len2 fr2
            refine h σ2 A2 st2 (fun b hb => ?_) (len2.trans len1) fun j hj => ?_
            · rcases List.mem_append.mp (sub2 b hb) with z | z
              · exact List.mem_append_left _ (List.mem_append_right _ z)
              · rcases List.mem_append.mp (sub1 b z) with z | z
                · exact List.mem_append_left _ (List.mem_append_left _ z)
                · exact List.mem_append_right _ z
            · simp only [tgSlots, List.mem_append, not_or] at hj
              rw [fr2 j hj.2, fr1 j hj.1]⟩
theorem PG.or {X : Cx} {e : Expr} {t t' : TG} (h : PG X e t) (h' : PG X e t') : PG X e fun v σ H Q => t v σ H Q ∨ t' v σ H Q := ⟨fun pins s σ H v u Q I r q => q.elim (h.run pins s σ H v u Q I r) (h'.run pins s σ H v u Q I r)⟩
theorem g_tup {es : List Expr} {k : Nat} {ts : List Tg} (hc : X.calm = true) (h : GsOk X es ts) (hn : (assignEach es X.env).length = ts.length := by rfl) (hst : (assignEach es X.env).findIdx? (·.1) = none := by rfl) : GOk X (.Tuple es k pos) (.tp ts) :=
  ⟨PG.imp (PG.or (pg_tup hc h.pgs hn hst) (pg_lst hc h.pgs hn hst)) fun x σ H Q ⟨P, ρ, A, d, B, st, r, nd, o, h⟩ => by
    have go : ∀ {a : Addr} {xs : List V} {ds : List D} {A0 : List Addr}, RelL (gd X) P H xs ds A0 → (A0 ++ A).Nodup → (∀ b ∈ A0, b ∈ B) → (match tgSetL ts ds ρ with
        | some ρ' => ∀ σ' A', StRel (gd X) P H σ' ρ' A' → (∀ b ∈ A', b ∈ B ++ A) → σ'.length = σ.length → (∀ j, j ∉ (Tg.tp ts).slots → σ'[j]? = σ[j]?) → Q σ' H
        | none => False) → xs.length = ts.length ∧ tGL (gd X) ts xs σ H Q := by
      intro a xs ds A0 r nd sub h
      refine ⟨?_, P, ρ, A, ds, A0, st, r, nd, fun b hb => o b (sub b hb), ?_⟩
      · cases hq : tgSetL ts ds ρ with
        | none => rw [hq] at h; exact h.elim
        | some ρ' => rw [r.length, ← tgSetL_len hq]
      · cases hq : tgSetL ts ds ρ with
        | none => rw [hq] at h; exact h.elim
        | some ρ' =>
          rw [hq] at h
          exact fun σ' A' s1 s2 s3 s4 => h σ' A' s1 (fun b hb => (List.mem_append.mp (s2 b hb)).elim (fun z => List.mem_append_left _ (sub b z)) (List.mem_append_right _)) s3 (by simpa [Tg.slots] using s4)
    cases r with
    | @tup a xs ds A0 q r =>
      simp only [Tg.set] at h
      have z := go (a := a) r nd (fun b hb => hb) h
      exact .inl ⟨a, xs, rfl, st.und.seqT q, z.1, z.2⟩
    | @lstF a xs ds q r =>
      simp only [Tg.set] at h
      have z := go (a := a) r nd (fun b hb => hb) h
      exact .inr ⟨a, xs, rfl, st.und.seqL (SqL.of q), z.1, z.2⟩
    | @lstO a xs ds A0 q r =>
      simp only [Tg.set] at h
      have z := go (a := a) r (List.nodup_cons.mp (by simpa using nd)).2 (fun b hb => List.mem_cons_of_mem _ hb) h
      exact .inr ⟨a, xs, rfl, SqL.of q, z.1, z.2⟩
    | _ => simp only [Tg.set] at h⟩
structure ItOk (G : Gd) (bor : Bool) (J : It) (ds : List D) (Src : Hp → Hp → Prop) : Prop where
  stay : ∀ P H P' H' A, (bor = true → A = []) → Under P H → Ext P H P' H' A → Src P H → Src P' H'
  go : ∀ i P H, Under P H → Src P H → i < ds.length → J.go i H ∧ ∀ x H', J.yld i H x H' → ∃ P' d, Ext P H P' H' [] ∧ ds[i]? = some d ∧ Rel G P' H' x d []
  stop : ∀ i P H, Under P H → Src P H → ds.length ≤ i → J.stop i H
def tI (G : Gd) (W : WX) (bor : Bool) (S : Env → Res (List D)) : TI := fun σ H R => ∃ P ρ A, StRel G P H σ ρ A ∧ match S ρ with
  | .ok ds => ∀ J P' H' Src, ItOk G bor J ds Src → Src P' H' → Ext P H P' H' [] → R J H'
  | .exc x => PostX G P H W σ x
  | .bad => False
structure IOk (X : Cx) (W : WX) (bor : Bool) (tg e : Expr) (S : Env → Res (List D)) : Prop where pi : PI X tg e (tI (gd X) W bor S)
theorem PI.imp {X : Cx} {tg e : Expr} {t t' : TI} (h : PI X tg e t) (f : ∀ σ H R, t' σ H R → t σ H R) : PI X tg e t' := ⟨fun pins s σ H R I q => h.run pins s σ H R I (f σ H R q)⟩
theorem PI.or {X : Cx} {tg e : Expr} {t t' : TI} (h : PI X tg e t) (h' : PI X tg e t') : PI X tg e fun σ H R => t σ H R ∨ t' σ H R := ⟨fun pins s σ H R I q => q.elim (h.run pins s σ H R I) (h'.run pins s σ H R I)⟩
theorem RelL.at? {G : Gd} {P H : Hp} : ∀ {vs : List V} {ds : List D} {i : Nat}, RelL G P H vs ds [] → i < ds.length → ∃ v d, vs[i]? = some v ∧ ds[i]? = some d ∧ Rel G P H v d [] := fun {vs ds i} r h => by
  obtain ⟨v, B, h1, h2, h3⟩ := r.get (List.getElem?_eq_getElem h)
  have e : B = [] := by
    cases B with
    | nil => rfl
    | cons b B => exact absurd (h3 b List.mem_cons_self) (by simp)
  subst e
  exact ⟨v, _, h1, List.getElem?_eq_getElem h, h2⟩
theorem it_list {G : Gd} {a : Addr} {xs : List V} {ds : List D} : ItOk G false (Itl G.K a) ds fun P H => P a = some (.lst xs) ∧ RelL G P H xs ds [] where
  stay := fun P H P' H' A _ _ e ⟨h, r⟩ => ⟨e.same _ _ h, r.mono e.same (by simp)⟩
  go := fun i P H u ⟨h, r⟩ hi => by
    obtain ⟨v, d, h1, h2, h3⟩ := r.at? hi
    exact ⟨⟨xs, v, u.seqL (SqL.of h), h1⟩, fun x H' hy => by
      obtain ⟨e, y⟩ := hy
      subst e
      have q := y xs (u.seqL (SqL.of h))
      rw [h1] at q
      cases q
      exact ⟨P, d, Ext.refl u, h2, h3⟩⟩
  stop := fun i P H u ⟨h, r⟩ hi => ⟨xs, u.seqL (SqL.of h), by rw [r.length]; exact hi⟩
theorem it_listB {G : Gd} {a : Addr} {xs : List V} {ds : List D} : ItOk G true (Itl G.K a) ds fun P H => H a = some (.lst xs) ∧ P a = none ∧ RelL G P H xs ds [] where
  stay := fun P H P' H' A hA u e ⟨h, n, r⟩ => by
    obtain rfl := hA rfl
    refine ⟨e.keep _ _ h n (by simp), ?_, r.mono e.same (by simp)⟩
    exact (e.own (A := [a]) (fun b hb => by simp at hb; subst hb; exact ⟨_, h⟩) (fun b hb => by simp at hb; subst hb; exact n)).2 a (by simp)
  go := fun i P H u ⟨h, n, r⟩ hi => by
    obtain ⟨v, d, h1, h2, h3⟩ := r.at? hi
    exact ⟨⟨xs, v, SqL.of h, h1⟩, fun x H' hy => by
      obtain ⟨e, y⟩ := hy
      subst e
      have q := y xs (SqL.of h)
      rw [h1] at q
      cases q
      exact ⟨P, d, Ext.refl u, h2, h3⟩⟩
  stop := fun i P H u ⟨h, n, r⟩ hi => ⟨xs, SqL.of h, by rw [r.length]; exact hi⟩
theorem ItOk.any {G : Gd} {J : It} {ds : List D} {Src : Hp → Hp → Prop} {bor : Bool} (h : ItOk G false J ds Src) : ItOk G bor J ds Src := ⟨fun P H P' H' A _ => h.stay P H P' H' A (fun z => by cases z), h.go, h.stop⟩
theorem it_tup {G : Gd} {a : Addr} {xs : List V} {ds : List D} : ItOk G false (Itt G.K a) ds fun P H => SqT G.K P a xs ∧ RelL G P H xs ds [] where
  stay := fun P H P' H' A _ _ e ⟨h, r⟩ => ⟨Same.sqT e.same h, r.mono e.same (by simp)⟩
  go := fun i P H u ⟨h, r⟩ hi => by
    obtain ⟨v, d, h1, h2, h3⟩ := r.at? hi
    exact ⟨⟨xs, v, u.seqT h, h1⟩, fun x H' hy => by
      obtain ⟨e, y⟩ := hy
      subst e
      have q := y xs (u.seqT h)
      rw [h1] at q
      cases q
      exact ⟨P, d, Ext.refl u, h2, h3⟩⟩
  stop := fun i P H u ⟨h, r⟩ hi => ⟨xs, u.seqT h, by rw [r.length]; exact hi⟩
theorem it_scr {G : Gd} {a : Addr} {ns : List Int} : ItOk G false (Itl G.K a) (ns.map .int) fun P H => SqL G.K P a (ns.map V.int) where
  stay := fun P H P' H' A _ _ e h => Same.seq e.same h
  go := fun i P H u h hi => by
    have r : RelL G P H (ns.map V.int) (ns.map D.int) [] := ints_rel ns
    obtain ⟨v, d, h1, h2, h3⟩ := r.at? hi
    exact ⟨⟨_, v, u.seqL h, h1⟩, fun x H' hy => by
      obtain ⟨e, y⟩ := hy
      subst e
      have q := y _ (u.seqL h)
      rw [h1] at q
      cases q
      exact ⟨P, d, Ext.refl u, h2, h3⟩⟩
  stop := fun i P H u h hi => ⟨_, u.seqL h, by simpa using hi⟩
def seqD : D → Option (List D)
  | .lst _ ds => if cleanL ds = true then some ds else none
  | .tup ds => if cleanL ds = true then some ds else none
  | .scr ns => some (ns.map .int)
  | _ => none
def sSeq (S : Env → Res D) : Env → Res (List D) := fun ρ => (S ρ).bind fun d => opt (seqD d)
theorem seq_src {G : Gd} {P H P1 H1 : Hp} {B : List Addr} {d : D} {v : V} {ds : List D} {σ : Sl} {ρ : Env} {A : List Addr} (st : StRel G P H σ ρ A) (e : Ext P H P1 H1 []) (r : Rel G P1 H1 v d B) (f : Fresh P1 H B) (h : seqD d = some ds) :
    (∃ a, v = .ref a ∧ (∃ xs, SqL G.K H1 a xs) ∧ ∃ Src P2, ItOk G false (Itl G.K a) ds Src ∧ Src P2 H1 ∧ Ext P H P2 H1 []) ∨ ∃ a, v = .ref a ∧ (∃ xs, SqT G.K H1 a xs) ∧ ∃ Src P2, ItOk G false (Itt G.K a) ds Src ∧ Src P2 H1 ∧ Ext P H P2 H1 [] := by
  cases r with
  | @tup a xs ds0 A0 q r =>
    simp only [seqD] at h
    split at h
    · rename_i c
      cases h
      exact .inr ⟨a, rfl, ⟨xs, e.und.seqT q⟩, _, P1, it_tup, ⟨q, r.nil_of c⟩, e⟩
    · cases h
  | @lstF a xs ds0 q r =>
    simp only [seqD] at h
    split at h
    · rename_i c
      cases h
      exact .inl ⟨a, rfl, ⟨xs, e.und.seqL (SqL.of q)⟩, _, P1, it_list, ⟨q, r⟩, e⟩
    · cases h
  | @lstO a xs ds0 A0 q r =>
    simp only [seqD] at h
    split at h
    · rename_i c
      cases h
      have r' := r.nil_of c
      have o : ∀ b ∈ [a], P1 b = none := fun b hb => by
        have hb : b = a := by simpa using hb
        subst hb
        exact (f.2 b List.mem_cons_self).2
      have g := give_ext (A := [a]) e.und o
      refine .inl ⟨a, rfl, ⟨xs, SqL.of q⟩, _, give P1 H1 [a], it_list, ⟨by rw [give_in (by simp)]; exact q, r'.mono g.same (by simp)⟩, ?_⟩
      refine ⟨e.same.trans g.same, g.und, e.keep, e.lck, fun b w q => ?_⟩
      rcases g.new b w q with z | z | z
      · exact e.new b w z
      · exact .inr (.inl (e.free st.und z))
      · have hb : b = a := by simpa using z
        subst hb
        exact .inr (.inl (f.2 b List.mem_cons_self).1)
    · cases h
  | @scr a ns q =>
    simp only [seqD] at h
    cases h
    exact .inl ⟨a, rfl, ⟨_, e.und.seqL q⟩, _, P1, it_scr, q, e⟩
  | _ => simp [seqD] at h
theorem i_seq {bor : Bool} {tg : Expr} (h : EOk X W e S) : IOk X W bor tg e (sSeq S) := ⟨PI.imp (PI.or (pi_list h.pe) (pi_tup h.pe)) fun σ H R ⟨P, ρ, A, st, q⟩ => by
  unfold sSeq at q
  cases hs : S ρ with
  | bad => simp only [hs, Res.bind] at q
  | exc x => exact .inl ⟨P, ρ, A, st, by rw [hs]; simp only [hs, Res.bind] at q; exact q⟩
  | ok d =>
    simp only [hs, Res.bind] at q
    cases hd : seqD d with
    | none => simp only [hd, opt] at q
    | some ds =>
      simp only [hd, opt] at q
      by_cases ht : ∃ es, d = .tup es
      · refine .inr ⟨P, ρ, A, st, ?_⟩
        rw [hs]
        intro v P1 H1 B e1 r f
        rcases seq_src st e1 r f hd with ⟨a, rfl, ⟨xs, hx⟩, Src, P2, it, sr, ex⟩ | ⟨a, rfl, hx, Src, P2, it, sr, ex⟩
        · obtain ⟨es, rfl⟩ := ht
          cases r with
          | @tup a' xs' ds0 A0 q' r' =>
            simp only [seqD] at hd
            split at hd
            · rename_i c
              cases hd
              exact ⟨_, rfl, ⟨_, e1.und.seqT q'⟩, q _ P1 H1 _ it_tup.any ⟨q', r'.nil_of c⟩ e1⟩
            · cases hd
        · exact ⟨a, rfl, hx, q _ P2 H1 Src it.any sr ex⟩
      · refine .inl ⟨P, ρ, A, st, ?_⟩
        rw [hs]
        intro v P1 H1 B e1 r f
        rcases seq_src st e1 r f hd with ⟨a, rfl, hx, Src, P2, it, sr, ex⟩ | ⟨a, rfl, ⟨xs, hx⟩, Src, P2, it, sr, ex⟩
        · exact ⟨a, rfl, hx, q _ P2 H1 Src it.any sr ex⟩
        · cases r with
          | tup _ _ => exact absurd ⟨_, rfl⟩ ht
          | @lstF a' xs' ds0 q' r' =>
            simp only [seqD] at hd
            split at hd
            · rename_i c
              cases hd
              exact ⟨_, rfl, ⟨_, e1.und.seqL (SqL.of q')⟩, q _ P1 H1 _ it_list.any ⟨q', r'⟩ e1⟩
            · cases hd
          | @lstO a' xs' ds0 A0 q' r' =>
            simp only [seqD] at hd
            split at hd
            · rename_i c
              cases hd
              have r2 := r'.nil_of c
              have o : ∀ b ∈ [a], P1 b = none := fun b hb => by
                have hb : b = a := by simpa using hb
                subst hb
                exact (f.2 b List.mem_cons_self).2
              have g := give_ext (A := [a]) e1.und o
              refine ⟨a, rfl, ⟨_, SqL.of q'⟩, q _ (give P1 H1 [a]) H1 _ it_list.any ⟨by rw [give_in (by simp)]; exact q', r2.mono g.same (by simp)⟩ ⟨e1.same.trans g.same, g.und, e1.keep, e1.lck, fun b w q => ?_⟩⟩
              rcases g.new b w q with z | z | z
              · exact e1.new b w z
              · exact .inr (.inl (e1.free st.und z))
              · have hb : b = a := by simpa using z
                subst hb
                exact .inr (.inl (f.2 b List.mem_cons_self).1)
            · cases hd
          | @scr a' ns q' =>
            simp only [seqD] at hd
            cases hd
            exact ⟨_, rfl, ⟨_, e1.und.seqL q'⟩, q _ P1 H1 _ it_scr.any q' e1⟩
          | _ => simp [seqD] at hd⟩
end
end RL
namespace RL
open PySem PySem.Spec PyProof.Rows L2
section
variable {X : Cx} {W : WX} {e a b : Expr} {pos : Pos} {Sa Sb S : Env → Res D}
theorem i_seqB {tg : Expr} (h : BOk X W e S) : IOk X W true tg e (sSeq S) := ⟨PI.imp (PI.or (pi_list h.pe) (pi_tup h.pe)) fun σ H R ⟨P, ρ, A, st, q⟩ => by
  unfold sSeq at q
  cases hs : S ρ with
  | bad => simp only [hs, Res.bind] at q
  | exc x => exact .inl ⟨P, ρ, A, st, by rw [hs]; simp only [hs, Res.bind] at q; exact q⟩
  | ok d =>
    simp only [hs, Res.bind] at q
    cases hd : seqD d with
    | none => simp only [hd, opt] at q
    | some ds =>
      simp only [hd, opt] at q
      by_cases ht : ∃ es, d = .tup es
      · obtain ⟨es, rfl⟩ := ht
        refine .inr ⟨P, ρ, A, st, ?_⟩
        rw [hs]
        intro v P1 H1 B e1 r f
        cases r with
        | @tup a' xs' ds0 A0 q' r' =>
          simp only [seqD] at hd
          split at hd
          · rename_i c
            cases hd
            exact ⟨_, rfl, ⟨_, e1.und.seqT q'⟩, q _ P1 H1 _ it_tup.any ⟨q', r'.nil_of c⟩ e1⟩
          · cases hd
      · refine .inl ⟨P, ρ, A, st, ?_⟩
        rw [hs]
        intro v P1 H1 B e1 r f
        cases r with
        | tup _ _ => exact absurd ⟨_, rfl⟩ ht
        | @lstF a' xs' ds0 q' r' =>
          simp only [seqD] at hd
          split at hd
          · rename_i c
            cases hd
            exact ⟨_, rfl, ⟨_, e1.und.seqL (SqL.of q')⟩, q _ P1 H1 _ it_list.any ⟨q', r'⟩ e1⟩
          · cases hd
        | @lstO a' xs' ds0 A0 q' r' =>
          simp only [seqD] at hd
          split at hd
          · rename_i c
            cases hd
            exact ⟨_, rfl, ⟨_, SqL.of q'⟩, q _ P1 H1 _ it_listB ⟨q', f _ List.mem_cons_self, r'.nil_of c⟩ e1⟩
          · cases hd
        | @scr a' ns q' =>
          simp only [seqD] at hd
          cases hd
          exact ⟨_, rfl, ⟨_, e1.und.seqL q'⟩, q _ P1 H1 _ it_scr.any q' e1⟩
        | _ => simp [seqD] at hd⟩
def ups (lo : Int) (n : Nat) : List D := (List.range n).map fun (k : Nat) => D.int (lo + (k : Int))
theorem ups_len (lo : Int) (n : Nat) : (ups lo n).length = n := by simp [ups]
theorem it_rng {G : Gd} {lo : Int} {n : Nat} : ItOk G false (Itr lo n) (ups lo n) fun _ _ => True where
  stay := fun _ _ _ _ _ _ _ _ _ => trivial
  go := fun i P H u _ hi => by
    rw [ups_len] at hi
    refine ⟨hi, fun x H' hy => ?_⟩
    obtain ⟨e, y⟩ := hy
    subst e y
    exact ⟨P, .int (lo + i), Ext.refl u, by simp [ups, hi], .int _⟩
  stop := fun i P H u _ hi => by rw [ups_len] at hi; exact hi
def inR (i : Int) : Bool := decide (-(2 ^ 62) ≤ i) && decide (i < 2 ^ 62)
def rng1 : List D → Option (List D)
  | [.int j] => if inR j = true then some (ups 0 j.toNat) else none
  | _ => none
def sI (f : List D → Option (List D)) (S : Env → Res (List D)) : Env → Res (List D) := fun ρ => (S ρ).bind fun ds => opt (f ds)
theorem i_rng1 {bor : Bool} {tg : Expr} {p : Pos} {T : Env → Res (List D)} (hm : X.mg "range" = none) (ha : ABOk X W [a] T) (hg : Gl X "range" := by rfl) (hs : starEach [a] X.env = [(false, eval a X.env)] := by rfl) : IOk X W bor tg (.Call (.Name "range" p) [a] [] pos) (sI rng1 T) :=
  ⟨PI.imp (pi_range1 hg hm ha.pa hs) fun σ H R ⟨P, ρ, A, st, h⟩ => ⟨P, ρ, A, st, by
    unfold sI at h
    cases ht : T ρ with
    | bad => simp only [ht, Res.bind] at h
    | exc x => simp only [ht, Res.bind] at h; exact h
    | ok ds =>
      simp only [ht, Res.bind] at h
      intro vs P1 H1 B e1 r o
      cases r with
      | nil => simp [rng1, opt] at h
      | cons r1 r2 =>
        cases r2 with
        | cons _ _ => simp [rng1, opt] at h
        | nil =>
          cases r1 with
          | int j =>
            simp only [rng1] at h
            by_cases c : inR j = true
            · rw [if_pos c] at h
              simp only [inR, Bool.and_eq_true, decide_eq_true_eq] at c
              exact ⟨j, rfl, c.1, c.2, h _ P1 H1 _ it_rng.any trivial e1⟩
            · rw [if_neg c] at h; exact h.elim
          | _ => simp [rng1, opt] at h⟩⟩
def lstD : D → Option (List D)
  | .lst _ ds => if cleanL ds = true then some ds else none
  | .scr ns => some (ns.map .int)
  | _ => none
def pairsI : Nat → List D → List D
  | _, [] => []
  | i, d :: ds => .tup [.int (i : Int), d] :: pairsI (i + 1) ds
theorem pairsI_get : ∀ {ds : List D} {k i : Nat} {d : D}, ds[i]? = some d → (pairsI k ds)[i]? = some (.tup [.int ((k + i : Nat) : Int), d])
  | [], _, _, _, h => by simp at h
  | e :: ds, k, 0, d, h => by simp at h; subst h; simp [pairsI]
  | e :: ds, k, i + 1, d, h => by
    have := pairsI_get (ds := ds) (k := k + 1) (i := i) (d := d) (by simpa using h)
    simp only [pairsI, List.getElem?_cons_succ]
    rw [this]
    congr 4
    omega
theorem pairsI_len : ∀ {ds : List D} {k : Nat}, (pairsI k ds).length = ds.length
  | [], _ => rfl
  | _ :: ds, k => by simp [pairsI, pairsI_len (ds := ds)]
def StayL (G : Gd) (P H : Hp) (a : Addr) (xs : List V) (ds : List D) : Prop := SqL G.K P a xs ∧ RelL G P H xs ds []
theorem it_enum {G : Gd} {a : Addr} {xs : List V} {ds : List D} : ItOk G false (Ite G.K a) (pairsI 0 ds) fun P H => StayL G P H a xs ds where
  stay := fun P H P' H' A _ _ e ⟨h, r⟩ => ⟨Same.seq e.same h, r.mono e.same (by simp)⟩
  go := fun i P H u ⟨h, r⟩ hi => by
    rw [pairsI_len] at hi
    obtain ⟨v, d, h1, h2, h3⟩ := r.at? hi
    refine ⟨⟨xs, v, u.seqL h, h1⟩, fun x H' hy => ?_⟩
    obtain ⟨T, w, e1, e2, e3, y⟩ := hy
    subst e1 e3
    have q := y _ (u.seqL h)
    rw [h1] at q
    cases q
    have ex := ext_fix (o := .tup [.int (i : Nat), v]) u e2
    refine ⟨_, _, ex, pairsI_get h2, .tup (SqT.of upd_same) (.cons (A := []) (B := []) ?_ (.cons (A := []) (B := []) (h3.mono ex.same (by simp)) .nil))⟩
    rw [Nat.zero_add]
    exact .int _
  stop := fun i P H u ⟨h, r⟩ hi => ⟨xs, u.seqL h, by rw [r.length, ← pairsI_len (k := 0)]; exact hi⟩
theorem list_src {G : Gd} {P H P1 H1 : Hp} {B : List Addr} {d : D} {v : V} {ds : List D} (un : Under P H) (e : Ext P H P1 H1 []) (r : Rel G P1 H1 v d B) (f : Fresh P1 H B) (h : lstD d = some ds) :
    ∃ a xs P2, v = .ref a ∧ StayL G P2 H1 a xs ds ∧ Ext P H P2 H1 [] ∧ Same P1 P2 ∧ ∀ b w, P2 b = some w → P1 b = some w ∨ b ∈ B := by
  cases r with
  | @lstF a xs ds0 q r =>
    simp only [lstD] at h
    split at h
    · cases h
      exact ⟨a, xs, P1, rfl, ⟨SqL.of q, r⟩, e, Same.refl _, fun b w q => .inl q⟩
    · cases h
  | @lstO a xs ds0 A0 q r =>
    simp only [lstD] at h
    split at h
    · rename_i c
      cases h
      have r' := r.nil_of c
      have o : ∀ b ∈ [a], P1 b = none := fun b hb => by
        have hb : b = a := by simpa using hb
        subst hb
        exact (f.2 b List.mem_cons_self).2
      have g := give_ext (A := [a]) e.und o
      refine ⟨a, xs, give P1 H1 [a], rfl, ⟨SqL.of (by rw [give_in (by simp)]; exact q), r'.mono g.same (by simp)⟩, ⟨e.same.trans g.same, g.und, e.keep, e.lck, fun b w q => ?_⟩, g.same, fun b w q => ?_⟩
      · rcases g.new b w q with z | z | z
        · exact e.new b w z
        · exact .inr (.inl (e.free un z))
        · have hb : b = a := by simpa using z
          subst hb
          exact .inr (.inl (f.2 b List.mem_cons_self).1)
      · by_cases hb : b = a
        · subst hb; exact .inr List.mem_cons_self
        · rw [give_out (by simpa using hb)] at q; exact .inl q
    · cases h
  | @scr a ns q =>
    simp only [lstD] at h
    cases h
    exact ⟨a, _, P1, rfl, ⟨q, ints_rel ns⟩, e, Same.refl _, fun b w q => .inl q⟩
  | _ => simp [lstD, opt] at h
def enum1 : List D → Option (List D)
  | [d] => (lstD d).map (pairsI 0)
  | _ => none
theorem i_enum {bor : Bool} {p tpos : Pos} {elts : List Expr} {kk : Nat} {T : Env → Res (List D)} (hm : X.mg "enumerate" = none) (ha : AOk X W [e] T) (hg : Gl X "enumerate" := by rfl) (hs : starEach [e] X.env = [(false, eval e X.env)] := by rfl) :
    IOk X W bor (.Tuple elts kk tpos) (.Call (.Name "enumerate" p) [e] [] pos) (sI enum1 T) :=
  ⟨PI.imp (pi_enum hg hm ha.pa hs) fun σ H R ⟨P, ρ, A, st, h⟩ => ⟨P, ρ, A, st, by
    unfold sI at h
    cases ht : T ρ with
    | bad => simp only [ht, Res.bind] at h
    | exc x => simp only [ht, Res.bind] at h; exact h
    | ok ds =>
      simp only [ht, Res.bind] at h
      intro vs P1 H1 B e1 r f
      cases r with
      | nil => simp [enum1, opt] at h
      | @cons v d A1 vs ds B1 r1 r2 =>
        cases r2 with
        | cons _ _ => simp [enum1, opt] at h
        | nil =>
          simp only [enum1] at h
          cases hl : lstD d with
          | none => simp only [hl, Option.map, opt] at h
          | some es =>
            simp only [hl, Option.map, opt] at h
            rw [List.append_nil] at f
            obtain ⟨a, xs, P2, rfl, sl, ex, _, _⟩ := list_src st.und e1 r1 f hl
            exact ⟨a, xs, rfl, ex.und.seqL sl.1, h _ P2 H1 _ it_enum.any sl ex⟩⟩⟩
end
end RL
namespace RL
open PySem PySem.Spec PyProof.Rows L2
def lcRun (f : D → Res (Option D)) : List D → Option (List D)
  | [] => some []
  | d :: ds => match f d with
    | .ok none => lcRun f ds
    | .ok (some e) => (lcRun f ds).map (e :: ·)
    | _ => none
def wipeE (ρ : Env) : List Nat → Env
  | [] => ρ
  | v :: vs => (wipeE ρ vs).set v none
def lcOne (t : Tg) (vs : List Nat) (T : Env → Res Bool) (E : Env → Res D) (ρ : Env) (d : D) : Res (Option D) := match t.set d (wipeE ρ vs) with
  | none => .bad
  | some ρ' => (T ρ').bind fun b => if b = true then (E ρ').bind fun e => .ok (some e) else .ok none
def sLc (Si : Env → Res (List D)) (t : Tg) (vs : List Nat) (T : Env → Res Bool) (E : Env → Res D) : Env → Res D := fun ρ => (Si ρ).bind fun ds => if ds.length ≤ sizeLine then (match lcRun (lcOne t vs T E ρ) ds with
  | some es => .ok (.lst true es)
  | none => .bad) else .bad
abbrev WF : WX := fun _ _ _ _ => False
theorem wipe_none {σ : Sl} {j : Nat} : ∀ {vs : List Nat}, j ∈ vs → j < σ.length → (wipe σ vs)[j]? = some none
  | [], h, _ => by simp at h
  | v :: vs, h, hl => by
    unfold wipe
    by_cases e : v = j
    · subst e
      rw [List.getElem?_set_self (by rw [wipe_length]; exact hl)]
    · rw [List.getElem?_set_ne e]
      exact wipe_none ((List.mem_cons.mp h).resolve_left fun z => e z.symm) hl
theorem wipe_eq {σ σ' : Sl} {vs : List Nat} (hl : σ'.length = σ.length) (h : ∀ j, j ∉ vs → σ'[j]? = σ[j]?) : wipe σ' vs = wipe σ vs := by
  apply List.ext_getElem?
  intro j
  by_cases hj : j ∈ vs
  · by_cases hx : j < σ.length
    · rw [wipe_none hj hx, wipe_none hj (by omega)]
    · rw [List.getElem?_eq_none (by rw [wipe_length]; omega), List.getElem?_eq_none (by rw [wipe_length]; omega)]
  · rw [wipe_out hj, wipe_out hj, h j hj]
section
variable {G : Gd} {P P' H H' : Hp}
theorem EnvRel.wipe {σ : Sl} {ρ : Env} {A : List Addr} (r : EnvRel G P H σ ρ A) : ∀ vs : List Nat, ∃ C, (∀ b ∈ C, b ∈ A) ∧ (A.Nodup → C.Nodup) ∧ EnvRel G P H (wipe σ vs) (wipeE ρ vs) C
  | [] => ⟨A, fun _ h => h, fun h => h, r⟩
  | v :: vs => by
    obtain ⟨C, c1, c2, c3⟩ := EnvRel.wipe r vs
    by_cases hv : v < (wipeE ρ vs).length
    · obtain ⟨B, C', p, q, _⟩ := c3.out hv
      refine ⟨C', fun b hb => c1 b (p.symm.subset (List.mem_append_right _ hb)), fun n => ((p.nodup_iff.mp (c2 n)).sublist (List.sublist_append_right _ _)), ?_⟩
      show EnvRel G P H ((L2.wipe σ vs).set v none) ((wipeE ρ vs).set v none) C'
      exact q.anyAt (by simp [hv])
    · refine ⟨C, c1, c2, ?_⟩
      show EnvRel G P H ((L2.wipe σ vs).set v none) ((wipeE ρ vs).set v none) C
      have hl := c3.length
      rw [List.set_eq_of_length_le (by omega), List.set_eq_of_length_le (by omega)]
      exact c3
theorem StRel.wipe {σ : Sl} {ρ : Env} {A : List Addr} (st : StRel G P H σ ρ A) (vs : List Nat) : ∃ C, StRel G P H (L2.wipe σ vs) (wipeE ρ vs) C := by
  obtain ⟨C, c1, c2, c3⟩ := st.env.wipe vs
  exact ⟨C, st.und, c3, c2 st.nd, fun b hb => st.off b (c1 b hb), st.mks⟩
theorem RelL.snoc {v : V} {d : D} {B : List Addr} (r : Rel G P H v d B) : ∀ {xs : List V} {ds : List D} {A : List Addr}, RelL G P H xs ds A → RelL G P H (xs ++ [v]) (ds ++ [d]) (A ++ B)
  | _, _, _, .nil => by
    have q : RelL G P H [v] [d] (B ++ []) := .cons r .nil
    rw [List.append_nil] at q
    exact q
  | _, _, _, .cons (A := A1) (B := B1) r1 t => by
    rw [List.append_assoc]
    exact .cons r1 (RelL.snoc r t)
theorem Ext.updNew {a : Addr} {o : HO} (e : Ext P H P' H' []) (h : H a = none) (h' : P' a = none) : Ext P H P' (upd H' a o) [] where
  same := e.same
  und := fun b w q => by
    have hb : b ≠ a := fun z => by subst z; rw [h'] at q; cases q
    rw [upd_ne hb]; exact e.und b w q
  keep := fun b w q n m => by rw [upd_ne (ne_of_none q h)]; exact e.keep b w q n m
  lck := fun b o u q => by rw [upd_ne (ne_of_none q h)]; exact e.lck b o u q
  new := e.new
end
section
variable {X : Cx} {W : WX}
theorem lc_imp {bor : Bool} {Si : Env → Res (List D)} {t : Tg} {vs : List Nat} {T : Env → Res Bool} {E : Env → Res D} (ht : ∀ i ∈ t.slots, i ∈ vs) {σ : Sl} {H : Hp} {Q : VK} (h : tE (gd X) W (sLc Si t vs T E) σ H Q) :
    tLc (tI (gd X) W bor Si) (tG (gd X) t) (tT (gd X) WF T) (tE (gd X) WF E) vs σ H Q := by
  obtain ⟨P, ρ, A, st, h⟩ := h
  refine ⟨P, ρ, A, st, ?_⟩
  unfold sLc at h
  cases hs : Si ρ with
  | bad => simp only [hs, Res.bind] at h
  | exc x => simp only [hs, Res.bind] at h; exact h
  | ok ds =>
    simp only [hs, Res.bind] at h
    by_cases hz : ds.length ≤ sizeLine
    · rw [if_pos hz] at h
      cases hr : lcRun (lcOne t vs T E ρ) ds with
      | none => rw [hr] at h; exact h.elim
      | some es =>
        rw [hr] at h
        intro J P1 H1 Src it sr e1 Dn hD
        have hP1 : P1 Dn = none := e1.und.free hD
        let Iv : Nat → Hp → Prop := fun i Hc => i ≤ ds.length ∧ ∃ Pc acc xs rest B, Ext P1 H1 Pc Hc [] ∧ Pc Dn = none ∧ Hc Dn = some (.lst xs) ∧ RelL (gd X) Pc Hc xs acc B ∧ lcRun (lcOne t vs T E ρ) (ds.drop i) = some rest ∧ acc ++ rest = es ∧ xs.length ≤ i ∧ Dn ∉ B ∧ B.Nodup ∧ ∀ b ∈ B, H1 b = none ∧ Pc b = none
        refine ⟨fun i m Hc => m = ds.length - i ∧ Iv i Hc, ⟨ds.length, by simp, Nat.zero_le _, P1, [], [], es, [], ext_own e1.und hD, hP1, upd_same, .nil, by simpa using hr, rfl, Nat.le_refl _, by simp, List.nodup_nil, fun b hb => by simp at hb⟩, ?_⟩
        rintro i m Hc ⟨rfl, hi, Pc, acc, xs, rest, B, ec, pD, hc, rl, hrest, hacc, hxl, nD, ndB, fB⟩
        have sc : Src Pc Hc := it.stay P1 H1 Pc Hc [] (fun _ => rfl) e1.und ec sr
        by_cases hlt : i < ds.length
        · right
          obtain ⟨hgo, hy⟩ := it.go i Pc Hc ec.und sc hlt
          refine ⟨hgo, Iv (i + 1), fun H' q => ⟨ds.length - (i + 1), by omega, rfl, q⟩, fun x H' y => ?_⟩
          obtain ⟨P2, d, e2, hd, rd⟩ := hy x H' y
          have hdrop : ds.drop i = d :: ds.drop (i + 1) := by
            rw [List.drop_eq_getElem_cons hlt]
            congr 1
            rw [List.getElem?_eq_getElem hlt] at hd
            exact Option.some.inj hd
          rw [hdrop] at hrest
          simp only [lcRun] at hrest
          have e12 := ec.trans e1.und e2
          obtain ⟨C, sw⟩ := (st.ext (e1.trans st.und e12)).wipe vs
          have offD : ∀ b ∈ (Dn :: B), ∃ o, Hc b = some o := fun b hb => by
            rcases List.mem_cons.mp hb with rfl | hb
            · exact ⟨_, hc⟩
            · exact rl.at b hb
          have offP : ∀ b ∈ (Dn :: B), Pc b = none := fun b hb => by
            rcases List.mem_cons.mp hb with rfl | hb
            · exact pD
            · exact (fB b hb).2
          have keep : ∀ {P3 H3 : Hp}, Ext Pc Hc P3 H3 [] → P3 Dn = none ∧ H3 Dn = some (.lst xs) ∧ RelL (gd X) P3 H3 xs acc B ∧ ∀ b ∈ B, H1 b = none ∧ P3 b = none := fun {P3 H3} e => by
            obtain ⟨k1, k2⟩ := e.own offD offP
            refine ⟨k2 _ List.mem_cons_self, by rw [k1 _ List.mem_cons_self]; exact hc, rl.mono e.same fun b hb => k1 b (List.mem_cons_of_mem _ hb), fun b hb => ⟨(fB b hb).1, k2 b (List.mem_cons_of_mem _ hb)⟩⟩
          cases hset : t.set d (wipeE ρ vs) with
          | none =>
            have : lcOne t vs T E ρ d = .bad := by simp only [lcOne, hset]
            rw [this] at hrest
            cases hrest
          | some ρ' =>
            have hone : lcOne t vs T E ρ d = (T ρ').bind fun b => if b = true then (E ρ').bind fun e => .ok (some e) else .ok none := by simp only [lcOne, hset]
            rw [hone] at hrest
            refine ⟨P2, wipeE ρ vs, C, d, [], sw, rd, by simpa using sw.nd, fun b hb => by simp at hb, ?_⟩
            rw [hset]
            intro σ' A' st' sub hlen hfr
            refine ⟨wipe_eq (by rw [hlen, wipe_length]) (fun j hj => by rw [hfr j fun z => hj (ht j z), wipe_out hj]), P2, ρ', A', st', ?_⟩
            cases hT : T ρ' with
            | bad => simp only [hT, Res.bind] at hrest; cases hrest
            | exc x => simp only [hT, Res.bind] at hrest; cases hrest
            | ok k =>
              intro P3 H3 e3
              cases k with
              | false =>
                simp only [hT, Res.bind, Bool.false_eq_true, if_false] at hrest ⊢
                have e13 := e2.trans ec.und e3
                obtain ⟨k1, k2, k3, k4⟩ := keep e13
                exact ⟨hlt, P3, acc, xs, rest, B, ec.trans e1.und e13, k1, k2, k3, hrest, hacc, by omega, nD, ndB, k4⟩
              | true =>
                simp only [hT, Res.bind, if_true] at hrest ⊢
                refine ⟨P3, ρ', A', st'.ext e3, ?_⟩
                cases hE : E ρ' with
                | bad => simp only [hE] at hrest; cases hrest
                | exc x => simp only [hE] at hrest; cases hrest
                | ok y0 =>
                  simp only [hE] at hrest
                  obtain ⟨rest', hr', rfl⟩ : ∃ r, lcRun (lcOne t vs T E ρ) (ds.drop (i + 1)) = some r ∧ rest = y0 :: r := by
                    cases hq : lcRun (lcOne t vs T E ρ) (ds.drop (i + 1)) with
                    | none => rw [hq] at hrest; cases hrest
                    | some r => rw [hq] at hrest; exact ⟨r, rfl, (Option.some.inj hrest).symm⟩
                  intro v P4 H4 B4 e4 r4 f4
                  have e13 := e2.trans ec.und e3
                  have e14 := e13.trans ec.und e4
                  obtain ⟨j1, j2, j3, j4⟩ := keep e13
                  obtain ⟨k1, k2, k3, k4⟩ := keep e14
                  have e1c := ec.trans e1.und e14
                  have dB4 : ∀ b ∈ B4, b ≠ Dn ∧ b ∉ B := fun b hb => by
                    have hn := (f4.2 b hb).1
                    refine ⟨fun z => ?_, fun z => ?_⟩
                    · subst z; rw [j2] at hn; cases hn
                    · obtain ⟨o, ho⟩ := j3.at b z
                      rw [ho] at hn; cases hn
                  refine ⟨xs, k2, by omega, hlt, P4, acc ++ [y0], xs ++ [v], rest', B ++ B4, e1c.updNew hD k1, k1, upd_same, ?_, hr', by rw [← hacc]; simp, by simp; omega, ?_, ?_, ?_⟩
                  · refine (k3.snoc r4).mono (Same.refl _) fun b hb => upd_ne ?_
                    rcases List.mem_append.mp hb with z | z
                    · exact fun w => nD (w ▸ z)
                    · exact (dB4 b z).1
                  · intro z
                    rcases List.mem_append.mp z with z | z
                    · exact nD z
                    · exact (dB4 _ z).1 rfl
                  · exact List.nodup_append.mpr ⟨ndB, f4.1, fun a ha b hb z => (dB4 b hb).2 (z ▸ ha)⟩
                  · intro b hb
                    rcases List.mem_append.mp hb with z | z
                    · exact k4 b z
                    · exact ⟨(ec.trans e1.und e13).free e1.und (f4.2 b z).1, (f4.2 b z).2⟩
        · left
          have e : i = ds.length := by omega
          subst e
          refine ⟨it.stop _ Pc Hc ec.und sc (Nat.le_refl _), ?_⟩
          rw [List.drop_length] at hrest
          have e0 : rest = [] := (Option.some.inj hrest).symm
          subst e0
          rw [List.append_nil] at hacc
          subst hacc
          refine h _ Pc Hc (Dn :: B) (e1.trans st.und ec) (.lstO hc rl) ⟨List.nodup_cons.mpr ⟨nD, ndB⟩, fun b hb => ?_⟩
          rcases List.mem_cons.mp hb with rfl | hb
          · exact ⟨e1.free st.und hD, pD⟩
          · exact ⟨e1.free st.und (fB b hb).1, (fB b hb).2⟩
    · rw [if_neg hz] at h; exact h.elim
structure TsOk (X : Cx) (W : WX) (ifs : List Expr) (T : Env → Res Bool) : Prop where pts : PTs X ifs (tT (gd X) W T)
theorem PTs.imp {X : Cx} {e : List Expr} {t t' : TT} (h : PTs X e t) (f : ∀ σ H Q, t' σ H Q → t σ H Q) : PTs X e t' := ⟨fun pins s σ H Q I q => h.run pins s σ H Q I (f σ H Q q)⟩
def sYes : Env → Res Bool := fun _ => .ok true
theorem ts_nil : TsOk X W [] sYes := ⟨PTs.imp pts_nil fun σ H Q ⟨P, ρ, A, st, h⟩ => h P H (Ext.refl st.und)⟩
theorem ts_one {c : Expr} {T : Env → Res Bool} (h : TOk X W c T) : TsOk X W [c] T := ⟨pts_one h.pt⟩
variable {bor : Bool} {elt tg iter : Expr} {ifs : List Expr} {scope : Scope} {own : List (Str × Nat)} {pos : Pos} {Si : Env → Res (List D)} {t : Tg} {T : Env → Res Bool} {E : Env → Res D}
theorem e_lc (hc : X.calm = true) (hN : X.N.Nodup) (hi : IOk X W bor tg iter Si) (ok : BlkOk X.N X.env.scope scope own) (ht : ∀ i ∈ t.slots, i ∈ own.map (·.2))
    (hg : ∀ (s : Shared) (H : Hp) (C : Addr) (cl : List (Str × Addr)) (fp : List Addr), GOk (X.blk s H scope (compEnvC scope cl C X.env) fp) tg t) (hT : ∀ (s : Shared) (H : Hp) (C : Addr) (cl : List (Str × Addr)) (fp : List Addr), TsOk (X.blk s H scope (compEnvC scope cl C X.env) fp) WF ifs T)
    (he : ∀ (s : Shared) (H : Hp) (C : Addr) (cl : List (Str × Addr)) (fp : List Addr), EOk (X.blk s H scope (compEnvC scope cl C X.env) fp) WF elt E) (hs : ∀ x, foldedSetIterable iter X.env x = pure x := by intro _; rfl) :
    EOk X W (.ListComp elt [⟨tg, iter, ifs, 0⟩] scope pos) (sLc Si t (own.map (·.2)) T E) :=
  ⟨PE.imp (pe_lc hc hN hi.pi ok (fun s H C cl fp => (hg s H C cl fp).pg) (fun s H C cl fp => (hT s H C cl fp).pts) (fun s H C cl fp => (he s H C cl fp).pe) hs) fun _ _ _ h => lc_imp (bor := bor) ht h⟩
end
end RL
namespace RL
open PySem PySem.Spec PyProof.Rows L2
inductive SRes where
  | nx (ρ : Env) | rt (d : D) (ρ : Env) | bk (ρ : Env) | exc (x : D) (ρ : Env) | bad
structure After (G : Gd) (P H : Hp) (σ : Sl) (A : List Addr) (L : List Nat) (P' H' : Hp) (σ' : Sl) (ρ' : Env) (A' : List Addr) : Prop where
  ext : Ext P H P' H' A
  st : StRel G P' H' σ' ρ' A'
  sub : ∀ b ∈ A', H b = none ∨ b ∈ A
  len : σ'.length = σ.length
  pin : ∀ j ∈ L, σ'[j]? = σ[j]?
def tS (G : Gd) (W : WX) (L : List Nat) (S : Env → SRes) : TS := fun D σ H => ∃ P ρ A, StRel G P H σ ρ A ∧ match S ρ with
  | .nx ρ' => ∀ σ' P' H' A', After G P H σ A L P' H' σ' ρ' A' → D.nx σ' H'
  | .rt d ρ' => ∀ v σ' P' H' A' B, After G P H σ A L P' H' σ' ρ' A' → Rel G P' H' v d B → (B ++ A').Nodup → (∀ b ∈ B, P' b = none ∧ (H b = none ∨ b ∈ A)) → D.rt v H'
  | .bk ρ' => ∀ σ' P' H' A', After G P H σ A L P' H' σ' ρ' A' → D.bk σ' H'
  | .exc x ρ' => ∀ cls dx σ' P' H' A', After G P H σ A L P' H' σ' ρ' A' → XRel G P' cls dx x → W cls dx σ' H'
  | .bad => False
structure SOk (X : Cx) (W : WX) (L : List Nat) (s : Stmt) (S : Env → SRes) : Prop where ps : PS X s (tS (gd X) W L S)
structure SsOk (X : Cx) (W : WX) (L : List Nat) (s : List Stmt) (S : Env → SRes) : Prop where pss : PSs X s (tS (gd X) W L S)
section
variable {G : Gd} {P H P1 H1 P2 H2 : Hp} {A A1 A2 : List Addr} {σ σ1 σ2 : Sl} {ρ1 ρ2 : Env} {L : List Nat}
theorem Ext.gone (e : Ext P H P1 H1 A) (u : Under P H) {b : Addr} (h : H1 b = none) : H b = none ∨ b ∈ A := by
  by_cases hA : b ∈ A
  · exact .inr hA
  · cases q : H b with
    | none => exact .inl rfl
    | some o =>
      cases qp : P b with
      | none => rw [e.keep b o q qp hA] at h; cases h
      | some w =>
        rcases e.und _ _ (e.same _ _ qp) with z | ⟨_, _, _, z⟩ | ⟨_, _, _, z, _⟩
        · rw [h] at z; cases z
        · rw [h] at z; cases z
        · rw [h] at z; cases z
theorem Ext.transA (u : Under P H) (a : Ext P H P1 H1 A) (b : Ext P1 H1 P2 H2 A1) (s : ∀ b ∈ A1, H b = none ∨ b ∈ A) : Ext P H P2 H2 A where
  same := a.same.trans b.same
  und := b.und
  lck := fun c o u h => b.lck c o u (a.lck c o u h)
  keep := fun c o h n hc => by
    refine b.keep c o (a.keep c o h n hc) ?_ fun z => ?_
    · cases q : P1 c with
      | none => rfl
      | some w =>
        rcases a.new c w q with z | z | z
        · rw [n] at z; cases z
        · rw [h] at z; cases z
        · exact absurd z hc
    · rcases s c z with z | z
      · rw [h] at z; cases z
      · exact hc z
  new := fun c o h => by
    rcases b.new c o h with z | z | z
    · exact a.new c o z
    · rcases a.gone u z with z | z
      · exact .inr (.inl z)
      · exact .inr (.inr z)
    · rcases s c z with z | z
      · exact .inr (.inl z)
      · exact .inr (.inr z)
theorem Ext.more (e : Ext P H P1 H1 []) : Ext P H P1 H1 A := ⟨e.same, e.und, fun b o h n _ => e.keep b o h n (by simp), e.lck, fun b o h => by
  rcases e.new b o h with z | z | z
  · exact .inl z
  · exact .inr (.inl z)
  · simp at z⟩
theorem After.refl {ρ : Env} (st : StRel G P H σ ρ A) : After G P H σ A L P H σ ρ A := ⟨Ext.refl st.und, st, fun b h => .inr h, rfl, fun _ _ => rfl⟩
theorem After.pure {ρ : Env} (st : StRel G P H σ ρ A) (e : Ext P H P1 H1 []) : After G P H σ A L P1 H1 σ ρ A := ⟨e.more, st.ext e, fun b h => .inr h, rfl, fun _ _ => rfl⟩
theorem After.trans (u : Under P H) (a : After G P H σ A L P1 H1 σ1 ρ1 A1) (b : After G P1 H1 σ1 A1 L P2 H2 σ2 ρ2 A2) : After G P H σ A L P2 H2 σ2 ρ2 A2 where
  ext := a.ext.transA u b.ext a.sub
  st := b.st
  sub := fun c hc => by
    rcases b.sub c hc with z | z
    · exact a.ext.gone u z
    · exact a.sub c z
  len := b.len.trans a.len
  pin := fun j hj => (b.pin j hj).trans (a.pin j hj)
theorem After.newB (u : Under P H) (a : After G P H σ A L P1 H1 σ1 ρ1 A1) {B : List Addr} (f : ∀ b ∈ B, P2 b = none ∧ (H1 b = none ∨ b ∈ A1)) : ∀ b ∈ B, P2 b = none ∧ (H b = none ∨ b ∈ A) := fun b hb => ⟨(f b hb).1, by
  rcases (f b hb).2 with z | z
  · exact a.ext.gone u z
  · exact a.sub b z⟩
theorem tS_from {W : WX} {D : Ends} {S : Env → SRes} {ρ : Env} (u : Under P H) (a : After G P H σ A L P1 H1 σ1 ρ1 A1) (r : SRes) (hr : match r with
      | .nx ρ' => ∀ σ' P' H' A', After G P H σ A L P' H' σ' ρ' A' → D.nx σ' H'
      | .rt d ρ' => ∀ v σ' P' H' A' B, After G P H σ A L P' H' σ' ρ' A' → Rel G P' H' v d B → (B ++ A').Nodup → (∀ b ∈ B, P' b = none ∧ (H b = none ∨ b ∈ A)) → D.rt v H'
      | .bk ρ' => ∀ σ' P' H' A', After G P H σ A L P' H' σ' ρ' A' → D.bk σ' H'
      | .exc x ρ' => ∀ cls dx σ' P' H' A', After G P H σ A L P' H' σ' ρ' A' → XRel G P' cls dx x → W cls dx σ' H'
      | .bad => False) (hs : S ρ1 = r) : tS G W L S D σ1 H1 := by
  refine ⟨P1, ρ1, A1, a.st, ?_⟩
  rw [hs]
  cases r with
  | nx ρ' => exact fun σ' P' H' A' b => hr _ _ _ _ (a.trans u b)
  | rt d ρ' => exact fun v σ' P' H' A' B b q1 q2 q3 => hr v _ _ _ _ B (a.trans u b) q1 q2 (a.newB u q3)
  | bk ρ' => exact fun σ' P' H' A' b => hr _ _ _ _ (a.trans u b)
  | exc x ρ' => exact fun cls dx σ' P' H' A' b q => hr cls dx _ _ _ _ (a.trans u b) q
  | bad => exact hr
theorem PostX.stmt {W : WX} {x : D} {ρ : Env} (st : StRel G P H σ ρ A) (h : ∀ cls dx σ' P' H' A', After G P H σ A L P' H' σ' ρ A' → XRel G P' cls dx x → W cls dx σ' H') : PostX G P H W σ x := fun cls dx P' H' e r => h cls dx σ P' H' A (.pure st e) r
end
section
variable {X : Cx} {W : WX} {L : List Nat} {pos : Pos} {e c : Expr} {st : Stmt} {rest : List Stmt} {S T : Env → SRes}
def sNext : Env → SRes := fun ρ => .nx ρ
def sThen (S T : Env → SRes) : Env → SRes := fun ρ => match S ρ with
  | .nx ρ' => T ρ'
  | r => r
theorem ss_nil : SsOk X W L [] sNext := ⟨PSs.imp pss_nil fun D σ H ⟨P, ρ, A, st, h⟩ => h σ P H A (.refl st)⟩
theorem ss_cons (h1 : SOk X W L st S) (h2 : SsOk X W L rest T) : SsOk X W L (st :: rest) (sThen S T) := ⟨PSs.imp (pss_cons h1.ps h2.pss) fun D σ H ⟨P, ρ, A, st, h⟩ => ⟨P, ρ, A, st, by
  unfold sThen at h
  cases hs : S ρ with
  | nx ρ1 =>
    simp only [hs] at h
    intro σ1 P1 H1 A1 a
    exact tS_from (ρ := ρ) st.und a (T ρ1) h rfl
  | rt d ρ1 => simp only [hs] at h; exact h
  | bk ρ1 => simp only [hs] at h; exact h
  | exc x ρ1 => simp only [hs] at h; exact h
  | bad => simp only [hs] at h⟩⟩
theorem ss_one (h1 : SOk X W L st S) : SsOk X W L [st] S := ⟨pss_one h1.ps⟩
def sFrz (i : Nat) (S : Env → SRes) : Env → SRes := fun ρ => match ρ[i]? with
  | some (some d) => S (ρ.set i (some d.frz))
  | _ => .bad
theorem StRel.frz {G : Gd} {P H : Hp} {σ : Sl} {ρ : Env} {A : List Addr} {i : Nat} {d : D} (st : StRel G P H σ ρ A) (h : ρ[i]? = some (some d)) : ∃ P' A', After G P H σ A L P' H σ (ρ.set i (some d.frz)) A' := by
  have hi : i < ρ.length := (List.getElem?_eq_some_iff.mp h).1
  obtain ⟨B, C, p, q, hv⟩ := st.env.out hi
  rcases hv with ⟨d', v, h1, h2, r⟩ | ⟨h1, _⟩
  · rw [h] at h1
    cases h1
    have bA : ∀ b ∈ B, b ∈ A := fun b hb => p.symm.subset (List.mem_append_left _ hb)
    have cA : ∀ b ∈ C, b ∈ A := fun b hb => p.symm.subset (List.mem_append_right _ hb)
    have g := give_ext (A := B) st.und fun b hb => st.off b (bA b hb)
    obtain ⟨n1, n2, n3⟩ := List.nodup_append.mp (p.nodup_iff.mp st.nd)
    have rf : Rel G (give P H B) H v d.frz [] := r.frz g.same fun b hb => give_in hb
    have qc : EnvRel G (give P H B) H σ (ρ.set i none) C := q.mono g.same fun _ _ => rfl
    obtain ⟨A', p', q'⟩ := qc.put (i := i) rf (by simpa using hi) (by simp [hi])
    rw [List.set_set, EnvRel.set_same h2] at q'
    refine ⟨give P H B, A', ⟨g.same, g.und, fun b o x1 x2 _ => x1, fun _ _ _ x1 => x1, fun b o x => (g.new b o x).elim .inl fun z => z.elim (fun z => .inr (.inl z)) fun z => .inr (.inr (bA b z))⟩, ⟨g.und, q', p'.symm.nodup_iff.mp (by simpa using n2), fun b hb => ?_, st.mks.mono g.same⟩, fun b hb => ?_, rfl, fun _ _ => rfl⟩
    · have hb : b ∈ C := by simpa using p'.subset hb
      rw [give_out fun z => n3 b z b hb rfl]
      exact st.off b (cA b hb)
    · exact .inr (cA b (by simpa using p'.subset hb))
  · rw [h] at h1; cases h1
def sAsg (t : Tg) (f : Bool) (S : Env → Res D) : Env → SRes := fun ρ => match S ρ with
  | .ok d => match t.set (if f then d.frz else d) ρ with
    | some ρ' => .nx ρ'
    | none => .bad
  | .exc x => .exc x ρ
  | .bad => .bad
theorem asg_imp {t : Tg} {f : Bool} {Se : Env → Res D} (hL : ∀ j ∈ L, j ∉ t.slots) {D : Ends} {σ : Sl} {H : Hp} (h : tS (gd X) W L (sAsg t f Se) D σ H) : tE (gd X) W Se σ H fun x H1 => tG (gd X) t x σ H1 D.nx := by
  obtain ⟨P, ρ, A, st, h⟩ := h
  refine ⟨P, ρ, A, st, ?_⟩
  unfold sAsg at h
  cases hs : Se ρ with
  | bad => simp only [hs] at h
  | exc x => simp only [hs] at h; exact PostX.stmt st h
  | ok d =>
    simp only [hs] at h
    intro v P1 H1 B e1 r fr
    have s1 := st.ext e1
    have nd : (B ++ A).Nodup := List.nodup_append.mpr ⟨fr.1, st.nd, fun x hx y hy z => by
      obtain ⟨o, ho⟩ := st.env.at y hy
      rw [← z, (fr.2 x hx).1] at ho; cases ho⟩
    cases f with
    | false =>
      simp only [Bool.false_eq_true, if_false] at h
      refine ⟨P1, ρ, A, d, B, s1, r, nd, fun b hb => (fr.2 b hb).2, ?_⟩
      cases ht : t.set d ρ with
      | none => simp only [ht] at h
      | some ρ' =>
        simp only [ht] at h
        intro σ' A' st' sub len pin
        refine h σ' P1 H1 A' ⟨e1.more, st', fun b hb => ?_, len, fun j hj => pin j (hL j hj)⟩
        rcases List.mem_append.mp (sub b hb) with z | z
        · exact .inl (fr.2 b z).1
        · exact .inr z
    | true =>
      simp only [if_true] at h
      have g := give_ext (A := B) e1.und fun b hb => (fr.2 b hb).2
      have e2 : Ext P H (give P1 H1 B) H1 [] := ⟨e1.same.trans g.same, g.und, e1.keep, e1.lck, fun b w q => by
        rcases g.new b w q with z | z | z
        · exact e1.new b w z
        · exact .inr (.inl (e1.free st.und z))
        · exact .inr (.inl (fr.2 b z).1)⟩
      refine ⟨give P1 H1 B, ρ, A, d.frz, [], st.ext e2, r.frz g.same fun b hb => give_in hb, by simpa using st.nd, fun b hb => by simp at hb, ?_⟩
      cases ht : t.set d.frz ρ with
      | none => simp only [ht] at h
      | some ρ' =>
        simp only [ht] at h
        intro σ' A' st' sub len pin
        exact h σ' _ H1 A' ⟨e2.more, st', fun b hb => .inr (by simpa using sub b hb), len, fun j hj => pin j (hL j hj)⟩
theorem s_asg {tg : Expr} {t : Tg} {f : Bool} {Se : Env → Res D} (he : EOk X W e Se) (hg : GOk X tg t) (hL : ∀ j ∈ L, j ∉ t.slots := by decide) (hs : swapsWithSole [tg] e pos.line X.env = pure false := by rfl) (hw : swappedStores [tg] e X.env = pure none := by rfl)
    (h1 : (assignEach [tg] X.env).map (·.2) = [assign tg X.env] := by rfl) : SOk X W L (.Assign [tg] e pos) (sAsg t f Se) := ⟨PS.imp (ps_asg he.pe hg.pg hs hw h1) fun D σ H h => asg_imp hL h⟩
theorem s_set (i : Nat) {x : Str} {p : Pos} {f : Bool} {Se : Env → Res D} (hN : X.N.Nodup) (he : EOk X W e Se) (hi : X.N[i]? = some x := by rfl) (hx : Loc X.env.scope x := by first | exact Or.inl rfl | exact Or.inr rfl) (hL : ∀ j ∈ L, j ∉ (Tg.nm i).slots := by decide)
    (hs : swapsWith e (some (.Name x p)) pos.line X.env = pure false := by rfl) (hf : X.fn x = true ∨ X.env.scope.names.lookup x = some .local := by first | exact .inl rfl | exact .inr rfl) : SOk X W L (.Assign [.Name x p] e pos) (sAsg (.nm i) f Se) := ⟨PS.imp (ps_set hN hi hx he.pe hs hf) fun D σ H h => by
  have q := asg_imp hL h
  obtain ⟨P, ρ, A, st, q⟩ := q
  refine ⟨P, ρ, A, st, ?_⟩
  cases hs : Se ρ with
  | bad => simp only [hs] at q
  | exc x => simp only [hs] at q; exact q
  | ok d =>
    simp only [hs] at q
    intro v P1 H1 B e1 r fr
    obtain ⟨P2, ρ2, A2, d2, B2, st2, r2, nd2, o2, h2⟩ := q v P1 H1 B e1 r fr
    simp only [Tg.set] at h2
    by_cases hl : i < ρ2.length
    · rw [if_pos hl] at h2
      obtain ⟨A', st', sub⟩ := st2.store r2 nd2 o2 hl
      refine h2 _ A' st' sub (by simp) fun j hj => ?_
      have hne : i ≠ j := fun e => hj (by simp [Tg.slots, e])
      rw [List.getElem?_set_ne hne]
    · rw [if_neg hl] at h2; exact h2.elim⟩
theorem s_setLc (i : Nat) {x : Str} {p : Pos} {f bor : Bool} {elt tg iter : Expr} {ifs : List Expr} {scope : Scope} {own : List (Str × Nat)} {p2 : Pos} {Si : Env → Res (List D)} {t : Tg} {Tt : Env → Res Bool} {E : Env → Res D} (hc : X.calm = true) (hN : X.N.Nodup) (hi : IOk X W bor tg iter Si)
    (ok : BlkOk X.N X.env.scope scope own) (ht : ∀ i ∈ t.slots, i ∈ own.map (·.2))
    (hg : ∀ (s : Shared) (H : Hp) (C : Addr) (cl : List (Str × Addr)) (fp : List Addr), GOk (X.blk s H scope (compEnvC scope cl C X.env) fp) tg t) (hT : ∀ (s : Shared) (H : Hp) (C : Addr) (cl : List (Str × Addr)) (fp : List Addr), TsOk (X.blk s H scope (compEnvC scope cl C X.env) fp) WF ifs Tt)
    (he : ∀ (s : Shared) (H : Hp) (C : Addr) (cl : List (Str × Addr)) (fp : List Addr), EOk (X.blk s H scope (compEnvC scope cl C X.env) fp) WF elt E)
    (hy : X.N[i]? = some x := by rfl) (hyl : X.env.scope.names.lookup x = some .local := by rfl) (hsw : swapsWith (.ListComp elt [⟨tg, iter, ifs, 0⟩] scope p2) (some (.Name x p)) pos.line X.env = pure true := by exact sw_true rfl rfl rfl (by decide +kernel))
    (hL : ∀ j ∈ L, j ∉ (Tg.nm i).slots := by decide) (hs : ∀ x, foldedSetIterable iter X.env x = pure x := by intro _; rfl) :
    SOk X W L (.Assign [.Name x p] (.ListComp elt [⟨tg, iter, ifs, 0⟩] scope p2) pos) (sAsg (.nm i) f (sLc Si t (own.map (·.2)) Tt E)) :=
  ⟨PS.imp (ps_setLc hc hN hy hyl hsw hi.pi ok (fun s H C cl fp => (hg s H C cl fp).pg) (fun s H C cl fp => (hT s H C cl fp).pts) (fun s H C cl fp => (he s H C cl fp).pe) hs) fun D σ H h => by
    have q := asg_imp hL h
    refine lc_imp (bor := bor) (T := Tt) (E := E) ht ?_
    obtain ⟨P, ρ, A, st, q⟩ := q
    refine ⟨P, ρ, A, st, ?_⟩
    cases hs : sLc Si t (own.map (·.2)) Tt E ρ with
    | bad => simp only [hs] at q
    | exc x => simp only [hs] at q; exact q
    | ok d =>
      simp only [hs] at q
      intro v P1 H1 B e1 r fr
      obtain ⟨P2, ρ2, A2, d2, B2, st2, r2, nd2, o2, h2⟩ := q v P1 H1 B e1 r fr
      simp only [Tg.set] at h2
      by_cases hl : i < ρ2.length
      · rw [if_pos hl] at h2
        obtain ⟨A', st', sub⟩ := st2.store r2 nd2 o2 hl
        refine h2 _ A' st' sub (by simp) fun j hj => ?_
        have hne : i ≠ j := fun e => hj (by simp [Tg.slots, e])
        rw [List.getElem?_set_ne hne]
      · rw [if_neg hl] at h2; exact h2.elim⟩
def sPar (i j : Nat) (S : Env → Res (List D)) : Env → SRes := fun ρ => match S ρ with
  | .ok [d, e] => match (Tg.tp [.nm i, .nm j]).set (.tup [d, e]) ρ with
    | some ρ' => .nx ρ'
    | none => .bad
  | .exc x => .exc x ρ
  | _ => .bad
def sExpr (S : Env → Res D) : Env → SRes := fun ρ => match S ρ with
  | .ok _ => .nx ρ
  | .exc x => .exc x ρ
  | .bad => .bad
theorem s_expr {Se : Env → Res D} (he : EOk X W e Se) (hs : swapsWith e none pos.line X.env = pure false := by rfl) : SOk X W L (.Expr e pos) (sExpr Se) := ⟨PS.imp (ps_expr he.pe hs) fun D σ H ⟨P, ρ, A, st, h⟩ => ⟨P, ρ, A, st, by
  unfold sExpr at h
  cases hs : Se ρ with
  | bad => simp only [hs] at h
  | exc x => simp only [hs] at h; exact PostX.stmt st h
  | ok d => simp only [hs] at h; exact fun v P1 H1 B e1 r fr => h σ P1 H1 A (.pure st e1)⟩⟩
def sBreak : Env → SRes := fun ρ => .bk ρ
def sRet (S : Env → Res D) : Env → SRes := fun ρ => match S ρ with
  | .ok d => .rt d ρ
  | .exc x => .exc x ρ
  | .bad => .bad
theorem s_ret {Se : Env → Res D} (he : EOk X W e Se) : SOk X W L (.Return (some e) pos) (sRet Se) := ⟨PS.imp (ps_ret he.pe) fun D σ H ⟨P, ρ, A, st, h⟩ => ⟨P, ρ, A, st, by
  unfold sRet at h
  cases hs : Se ρ with
  | bad => simp only [hs] at h
  | exc x => simp only [hs] at h; exact PostX.stmt st h
  | ok d =>
    simp only [hs] at h
    exact fun v P1 H1 B e1 r fr => h v σ P1 H1 A B (.pure st e1) r (List.nodup_append.mpr ⟨fr.1, st.nd, fun x hx y hy z => by
      obtain ⟨o, ho⟩ := st.env.at y hy
      rw [← z, (fr.2 x hx).1] at ho; cases ho⟩) fun b hb => ⟨(fr.2 b hb).2, .inl (fr.2 b hb).1⟩⟩⟩
def sRetN : Env → SRes := fun ρ => .rt .non ρ
def sRetV (i : Nat) : Env → SRes := fun ρ => match ρ[i]? with
  | some (some d) => .rt d (ρ.set i none)
  | _ => .bad
theorem s_retV (i : Nat) {x : Str} {p : Pos} (hN : X.N[i]? = some x := by rfl) (hv : Vis X.env.scope x := by first | exact Or.inl rfl | exact Or.inr (Or.inl rfl) | exact Or.inr (Or.inr rfl)) (hd : (x == ("__debug__" : Str)) = false := by decide)
    (hcd : (x == ("__classdict__" : Str)) = false := by decide) : SOk X W L (.Return (some (.Name x p)) pos) (sRetV i) := ⟨PS.imp (ps_ret (pe_var hN hv hd hcd)) fun D σ H ⟨P, ρ, A, st, h⟩ => by
  unfold sRetV at h
  cases hi : ρ[i]? with
  | none => simp only [hi] at h
  | some o =>
    cases o with
    | none => simp only [hi] at h
    | some d =>
      simp only [hi] at h
      have hl : i < ρ.length := (List.getElem?_eq_some_iff.mp hi).1
      obtain ⟨B, C, p, q, hv⟩ := st.env.out hl
      rcases hv with ⟨d', v, h1, h2, r⟩ | ⟨h1, _⟩
      · rw [hi] at h1
        cases h1
        have cA : ∀ b ∈ C, b ∈ A := fun b hb => p.symm.subset (List.mem_append_right _ hb)
        have bA : ∀ b ∈ B, b ∈ A := fun b hb => p.symm.subset (List.mem_append_left _ hb)
        have n := p.nodup_iff.mp st.nd
        exact ⟨v, h2, h v σ P H C B ⟨Ext.refl st.und, ⟨st.und, q, (List.nodup_append.mp n).2.1, fun b hb => st.off b (cA b hb), st.mks⟩, fun b hb => .inr (cA b hb), rfl, fun _ _ => rfl⟩ r n fun b hb => ⟨st.off b (bA b hb), .inr (bA b hb)⟩⟩
      · rw [hi] at h1; cases h1⟩
def sIfS (C : Env → Res Bool) (S T : Env → SRes) : Env → SRes := fun ρ => match C ρ with
  | .ok true => S ρ
  | .ok false => T ρ
  | .exc x => .exc x ρ
  | .bad => .bad
theorem s_if {C : Env → Res Bool} {a b : List Stmt} (hc : TOk X W c C) (ha : SsOk X W L a S) (hb : SsOk X W L b T) : SOk X W L (.If c a b pos) (sIfS C S T) := ⟨PS.imp (ps_if hc.pt ha.pss hb.pss) fun D σ H ⟨P, ρ, A, st, h⟩ => ⟨P, ρ, A, st, by
  unfold sIfS at h
  cases hs : C ρ with
  | bad => simp only [hs] at h
  | exc x => simp only [hs] at h; exact PostX.stmt st h
  | ok k =>
    intro P1 H1 e1
    cases k with
    | true => simp only [hs] at h; rw [if_pos rfl]; exact tS_from (ρ := ρ) st.und (.pure st e1) (S ρ) h rfl
    | false => simp only [hs] at h; rw [if_neg Bool.false_ne_true]; exact tS_from (ρ := ρ) st.und (.pure st e1) (T ρ) h rfl⟩⟩
def forRun (t : Tg) (S : Env → SRes) : List D → Env → SRes
  | [], ρ => .nx ρ
  | d :: ds, ρ => match t.set d ρ with
    | some ρ1 => match S ρ1 with
      | .nx ρ2 => forRun t S ds ρ2
      | .bk ρ2 => .nx ρ2
      | r => r
    | none => .bad
def sFor (Si : Env → Res (List D)) (t : Tg) (S : Env → SRes) : Env → SRes := fun ρ => match Si ρ with
  | .ok ds => forRun t S ds ρ
  | .exc x => .exc x ρ
  | .bad => .bad
theorem s_for {tg iter : Expr} {t : Tg} {Si : Env → Res (List D)} {body : List Stmt} (hp : PassesOwn (model X.prog X.w) X.A X.env X.xe) (hc : X.calm = true) (hi : IOk X W false tg iter Si) (hg : GOk X tg t) (hb : SsOk X W L body S) (hL : ∀ j ∈ L, j ∉ t.slots := by decide)
    (hs : ∀ x, foldedSetIterable iter X.env x = pure x := by intro _; rfl) : SOk X W L (.For tg iter body [] pos) (sFor Si t S) := ⟨PS.imp (ps_for hp hc hi.pi hg.pg hb.pss hs) fun D σ H ⟨P, ρ, A, st, h⟩ => ⟨P, ρ, A, st, by
  unfold sFor at h
  cases hs : Si ρ with
  | bad => simp only [hs] at h
  | exc x => simp only [hs] at h; exact PostX.stmt st h
  | ok ds =>
    simp only [hs] at h
    intro J P0 H0 Src it sr e0
    have a0 : After (gd X) P H σ A L P0 H0 σ ρ A := .pure st e0
    let Iv : Nat → Sl → Hp → Prop := fun i σc Hc => i ≤ ds.length ∧ ∃ Pc ρc Ac, After (gd X) P H σ A L Pc Hc σc ρc Ac ∧ Src Pc Hc ∧ forRun t S (ds.drop i) ρc = forRun t S ds ρ
    refine ⟨fun i m σc Hc => m = ds.length - i ∧ Iv i σc Hc, ⟨ds.length, by simp, Nat.zero_le _, P0, ρ, A, a0, sr, rfl⟩, ?_⟩
    rintro i m σc Hc ⟨rfl, hi, Pc, ρc, Ac, a, sc, hr⟩
    have uc := a.st.und
    by_cases hlt : i < ds.length
    · right
      obtain ⟨hgo, hy⟩ := it.go i Pc Hc uc sc hlt
      refine ⟨hgo, Iv (i + 1), fun σ' H' q => ⟨ds.length - (i + 1), by omega, rfl, q⟩, fun x H' y => ?_⟩
      obtain ⟨P2, d, e2, hd, rd⟩ := hy x H' y
      have hdrop : ds.drop i = d :: ds.drop (i + 1) := by
        rw [List.drop_eq_getElem_cons hlt]
        congr 1
        rw [List.getElem?_eq_getElem hlt] at hd
        exact Option.some.inj hd
      rw [← hr] at h
      rw [hdrop] at h hr
      simp only [forRun] at h
      have a2 := a.trans st.und (.pure (L := L) a.st e2)
      refine ⟨P2, ρc, Ac, d, [], a2.st, rd, by simpa using a2.st.nd, fun b hb => by simp at hb, ?_⟩
      cases ht : t.set d ρc with
      | none => simp only [ht] at h
      | some ρ1 =>
        simp only [ht] at h
        intro σ1 A1 st1 sub len pin
        have a3 : After (gd X) P2 H' σc Ac L P2 H' σ1 ρ1 A1 := ⟨Ext.refl a2.st.und, st1, fun b hb => .inr (by simpa using sub b hb), len, fun j hj => pin j (hL j hj)⟩
        have a4 := a2.trans st.und a3
        refine ⟨P2, ρ1, A1, st1, ?_⟩
        cases hS : S ρ1 with
        | bad => simp only [hS] at h
        | nx ρ2 =>
          simp only [hS] at h
          intro σ' P' H2 A' b
          refine ⟨hlt, P', ρ2, A', a4.trans st.und b, ?_, ?_⟩
          · exact it.stay P2 H' P' H2 A1 (fun z => by cases z) a2.st.und b.ext (it.stay Pc Hc P2 H' [] (fun _ => rfl) uc e2 sc)
          · rw [← hr]
            simp only [forRun, ht, hS]
        | bk ρ2 => simp only [hS] at h; exact fun σ' P' H2 A' b => h _ _ _ _ (a4.trans st.und b)
        | rt dv ρ2 => simp only [hS] at h; exact fun v σ' P' H2 A' B b q1 q2 q3 => h v _ _ _ _ B (a4.trans st.und b) q1 q2 (a4.newB st.und q3)
        | exc x ρ2 => simp only [hS] at h; exact fun cls dx σ' P' H2 A' b q => h cls dx _ _ _ _ (a4.trans st.und b) q
    · left
      have e : i = ds.length := by omega
      subst e
      refine ⟨it.stop _ Pc Hc uc sc (Nat.le_refl _), ?_⟩
      rw [← hr, List.drop_length] at h
      exact h σc Pc Hc Ac a⟩⟩
end
end RL
namespace RL
open PySem PySem.Spec PyProof.Rows L2
structure GRoom (k : Nat) (A : Around) : Prop where
  r : Room k A
  g : A.guards = some []
theorem GRoom.mono {j k : Nat} {A : Around} (h : GRoom k A) (l : j ≤ k) : GRoom j A := ⟨h.r.mono l, h.g⟩
structure FnG (P : Program) (w : World) (K : PySem.W.Frag) (mg : Str → Option Value) (base : Heap) (k : Nat) (f : Addr) (fd : FuncData) (ps : List Str) (sp : Sp) : Prop where
  len : ∀ vs H Q E, sp vs H Q E → vs.length = ps.length
  run : ∀ (A : Around) (outer : List PySem.Env) (s : Shared) (H : Hp) (args : Args) (us : List Value) (vs : List V) (Q : VK) (E : XK), GRoom k A → Env0 P w K mg base A outer s H →
    BindsTo s fd args (ps.zip us) → Vals vs us → sp vs H Q E → codeAny (model P w) A (.call (.ref f) args) (CR (L2.CX P w) outer P w H s Q E) s
theorem FnG.mono {P : Program} {w : World} {K : PySem.W.Frag} {mg : Str → Option Value} {base : Heap} {j k : Nat} {f : Addr} {fd : FuncData} {ps : List Str} {sp : Sp} (F : FnG P w K mg base j f fd ps sp) (h : j ≤ k) : FnG P w K mg base k f fd ps sp :=
  ⟨F.len, fun A outer s H args us vs Q E hr => F.run A outer s H args us vs Q E (hr.mono h)⟩
section
variable {P : Program} {w : World} {K : PySem.W.Frag} {mg : Str → Option Value} {base : Heap}
def Cod (K : PySem.W.Frag) (f : Addr) (cdv : Value) : Prop := ∃ oc od fd osl, K.lookup f = some ⟨oc, od, .func fd, osl⟩ ∧ fd.code = cdv
theorem fnG_of {k : Nat} {x qual : Str} {st : Stmt} {f : Addr} {fd : FuncData} {N ps : List Str} {sp : Sp} (F : Fun K x qual st f fd) (S : FnScope N ps (defScope st)) (len : ∀ vs H Q E, sp vs H Q E → vs.length = ps.length)
    (body : ∀ (cdv : Value) (A : Around) (outer : List PySem.Env) (s : Shared) (H : Hp) (vs : List V) (Q : VK) (E : XK), Cod K f cdv → GRoom k (cxOf (L2.CX P w) P w K mg base N qual (defScope st) f cdv A outer s H E).A → sp vs H Q E →
      ∃ t, PSs (cxOf (L2.CX P w) P w K mg base N qual (defScope st) f cdv A outer s H E) (defBody st) t ∧ t { nx := fun _ H' => Q .non H', rt := Q } (L2.start N vs) H) : FnG P w K mg base (k + 1) f fd ps sp := by
  obtain ⟨oc, od, kV, doc, pm, an, cdv, ct, osl, e, look, isCode⟩ := F.ex
  subst e
  constructor
  · exact len
  intro A outer s H args us vs Q E room env binds rel prom
  have lens : vs.length = ps.length := len vs H Q E prom
  have there : ∀ b o, base.get? b = some o → s.heap.get? b = some o := fun b o q => (env.bs b o q).1
  have kin : K.In s.heap := env.mod.kin.keeps there
  have kinds : ∀ y ∈ ps.zip us, (defScope st).names.lookup y.1 = some .local ∨ ((defScope st).names.lookup y.1 = some .cell ∧ ((cellsFrom (s.heap.objs.size + 1) (defScope st).names []).lookup y.1).isSome = true) := by
    intro y hy
    have hy1 : y.1 ∈ ps := (List.of_mem_zip (a := y.1) (b := y.2) hy).1
    cases S.par y.1 hy1 with
    | inl q => exact Or.inl q
    | inr q => exact Or.inr ⟨q, PySem.W.cellsFrom_some _ _ _ (Or.inl q)⟩
  apply codeAny_call_function room.r.depth (kin _ _ look) rfl S.co S.gen rfl (PySem.W.codeRec_of kin isCode)
  apply binds
  apply wpAny_newFunctionEnv_cells S.kind kinds
  intro env1 henv s1 inCall
  subst henv
  constructor
  · exact (env.mod.nolimit.keeps there).keeps inCall.toInCall.keep
  apply codeAny_func
  obtain ⟨t, ht, q⟩ := body cdv A outer s H vs Q E ⟨_, _, _, _, look, rfl⟩ ⟨room.r.deeper _, room.g⟩ prom
  have I := inv_start (CX := L2.CX P w) (E := E) (base := base) (K := K) (mg := mg) (w := w) S room.r.hd env lens rel inCall
  apply wpAny_mono (ht.run [] s1 (L2.start N vs) H _ I q)
  · intro fl s' h
    cases fl with
    | ret u =>
      obtain ⟨v, σ', H', J, rv, q'⟩ := h
      exact ⟨v, H', J.os, J.bare, J.base, J.hok, rv, q'⟩
    | next =>
      obtain ⟨σ', H', J, q'⟩ := h
      exact ⟨.non, H', J.os, J.bare, J.base, J.hok, rfl, q'⟩
    | brk =>
      obtain ⟨_, _, _, q'⟩ := h
      exact q'.elim
    | cont =>
      obtain ⟨_, _, _, q'⟩ := h
      exact q'.elim
  · intro u s' h
    exact h
end
inductive FR where
  | ok (d : D) (outs : List D) | exc (x : D) (outs : List D) | bad
def pick {α : Type} (L : List Nat) (vs : List α) : List α := L.filterMap fun i => vs[i]?
def spF (G : Gd) (n : Nat) (L : List Nat) (φ : List D → FR) : Sp := fun vs H Q E => vs.length = n ∧ ∃ P ds A, Under P H ∧ Marks G P ∧ RelL G P H vs ds A ∧ A.Nodup ∧ (∀ b ∈ A, P b = none) ∧ match φ ds with
  | .ok d outs => ∀ v P' H' B C, Ext P H P' H' A → Rel G P' H' v d B → RelL G P' H' (pick L vs) outs C → (B ++ C).Nodup → (∀ b ∈ B ++ C, P' b = none ∧ (H b = none ∨ b ∈ A)) → Q v H'
  | .exc x outs => ∀ cls dx P' H' C, Ext P H P' H' A → XRel G P' cls dx x → RelL G P' H' (pick L vs) outs C → C.Nodup → (∀ b ∈ C, P' b = none ∧ (H b = none ∨ b ∈ A)) → E cls dx H'
  | .bad => False
def outsOf (L : List Nat) (ρ : Env) : Option (List D) := L.mapM fun i => (ρ[i]?).bind id
def entry (n : Nat) (ds : List D) : Env := ds.map some ++ List.replicate (n - ds.length) none
def runDef (n : Nat) (L : List Nat) (S : Env → SRes) : List D → FR := fun ds => match S (entry n ds) with
  | .nx ρ => match outsOf L ρ with
    | some os => .ok .non os
    | none => .bad
  | .rt d ρ => match outsOf L ρ with
    | some os => .ok d os
    | none => .bad
  | .exc x ρ => match outsOf L ρ with
    | some os => .exc x os
    | none => .bad
  | _ => .bad
section
variable {G : Gd} {P H : Hp}
theorem RelL.entry : ∀ {vs : List V} {ds : List D} {A : List Addr} (m : Nat), RelL G P H vs ds A → EnvRel G P H (vs.map some ++ List.replicate m none) (ds.map some ++ List.replicate m none) A
  | _, _, _, m, .nil => by
    simp only [List.map_nil, List.nil_append]
    induction m with
    | zero => exact .nil
    | succ m ih => exact .no ih
  | _, _, _, m, .cons r t => .val r (RelL.entry m t)
theorem EnvRel.picks : ∀ {L : List Nat} {σ : Sl} {ρ : Env} {A : List Addr} {os : List D}, EnvRel G P H σ ρ A → L.Nodup → outsOf L ρ = some os → ∃ vs C R, A.Perm (C ++ R) ∧ RelL G P H vs os C ∧ (L.map fun i => σ[i]?) = vs.map fun v => some (some v)
  | [], σ, ρ, A, os, e, _, h => by
    have h' : os = [] := by simpa [outsOf] using h.symm
    subst h'
    exact ⟨[], [], A, .refl _, .nil, rfl⟩
  | i :: L, σ, ρ, A, os, e, nd, h => by
    obtain ⟨n1, n2⟩ := List.nodup_cons.mp nd
    simp only [outsOf, List.mapM_cons] at h
    cases hi : (ρ[i]?).bind id with
    | none => rw [hi] at h; cases h
    | some d =>
      rw [hi] at h
      cases hr : L.mapM fun i => (ρ[i]?).bind id with
      | none =>
        have h2 : (L.mapM fun i => (ρ[i]?).bind id).bind (fun bs => some (d :: bs)) = some os := h
        rw [hr] at h2; cases h2
      | some os' =>
        have h2 : (L.mapM fun i => (ρ[i]?).bind id).bind (fun bs => some (d :: bs)) = some os := h
        rw [hr] at h2
        obtain rfl : d :: os' = os := Option.some.inj h2
        have hρ : ρ[i]? = some (some d) := by
          cases q : ρ[i]? with
          | none => rw [q] at hi; cases hi
          | some o =>
            rw [q] at hi
            have : o = some d := hi
            rw [this]
        have hl : i < ρ.length := (List.getElem?_eq_some_iff.mp hρ).1
        obtain ⟨B, C, p, q, hv⟩ := e.out hl
        rcases hv with ⟨d', v, h1, h2', r⟩ | ⟨h1, _⟩
        · rw [hρ] at h1
          cases h1
          have hq : outsOf L (ρ.set i none) = some os' := by
            have e0 : ∀ (M : List Nat), i ∉ M → M.mapM (fun j => ((ρ.set i none)[j]?).bind id) = M.mapM fun j => (ρ[j]?).bind id := by
              intro M
              induction M with
              | nil => intro _; rfl
              | cons m M ih =>
                intro hm
                simp only [List.mem_cons, not_or] at hm
                rw [List.mapM_cons, List.mapM_cons, ih hm.2, List.getElem?_set_ne hm.1]
            unfold outsOf
            rw [e0 L n1, hr]
          obtain ⟨vs, C', R, p', r', g⟩ := q.picks n2 hq
          refine ⟨v :: vs, B ++ C', R, ?_, .cons r r', ?_⟩
          · refine p.trans ?_
            rw [List.append_assoc]
            exact p'.append_left B
          · simp only [List.map_cons, h2', g]
        · rw [hρ] at h1; cases h1
end
section
variable {P : Program} {w : World} {K : PySem.W.Frag} {mg : Str → Option Value} {base : Heap}
theorem pick_of {L : List Nat} {σ' : Sl} {vs xs : List V} {n : Nat} (h : (L.map fun i => σ'[i]?) = xs.map fun v => some (some v)) (pin : ∀ j ∈ L, σ'[j]? = (vs.map some ++ List.replicate n none)[j]?) : pick L vs = xs := by
  induction L generalizing xs with
  | nil =>
    cases xs with
    | nil => rfl
    | cons _ _ => cases h
  | cons i L ih =>
    cases xs with
    | nil => cases h
    | cons x xs =>
      simp only [List.map_cons, List.cons.injEq] at h
      have hi := pin i List.mem_cons_self
      rw [h.1] at hi
      have hlt : i < vs.length := by
        by_cases hlt : i < vs.length
        · exact hlt
        · rw [List.getElem?_append_right (by simpa using hlt), List.getElem?_replicate] at hi
          split at hi <;> cases hi
      rw [List.getElem?_append_left (by simpa using hlt), List.getElem?_map] at hi
      have hv : vs[i]? = some x := by
        cases q : vs[i]? with
        | none => rw [q] at hi; cases hi
        | some y => rw [q] at hi; cases hi; rfl
      have r := ih (xs := xs) h.2 fun j hj => pin j (List.mem_cons_of_mem _ hj)
      unfold pick at r ⊢
      rw [List.filterMap_cons, hv, r]
theorem fn_okC {k : Nat} {x qual : Str} {st : Stmt} {f : Addr} {fd : FuncData} {N ps : List Str} {S : Env → SRes} {L : List Nat} (F : Fun K x qual st f fd) (Sc : FnScope N ps (defScope st)) (hL : L.Nodup)
    (body : ∀ (X : Cx) (W : WX) (cdv : Value) (A : Around) (outer : List PySem.Env) (s : Shared) (H : Hp) (E : XK), X = cxOf (L2.CX P w) P w K mg base N qual (defScope st) f cdv A outer s H E → Cod K f cdv → GRoom k X.A → Takes X W → PassesOwn (model X.prog X.w) X.A X.env X.xe → SsOk X W L (defBody st) S) :
    FnG P w K mg base (k + 1) f fd ps (spF ⟨K, mg⟩ ps.length L (runDef N.length L S)) := by
  refine fnG_of F Sc (fun vs H Q E h => h.1) fun cdv A outer s H vs Q E hcd hr h => ?_
  have tk := takes_of (X := cxOf (L2.CX P w) P w K mg base N qual (defScope st) f cdv A outer s H E) (E := E) rfl rfl rfl rfl
  have hp := passes_of (X := cxOf (L2.CX P w) P w K mg base N qual (defScope st) f cdv A outer s H E) rfl
  have B := body _ _ cdv A outer s H E rfl hcd hr tk hp
  refine ⟨_, B.pss, ?_⟩
  obtain ⟨hlen, Pg, ds, As, un, mks, rl, nd, off, h⟩ := h
  have hds : ds.length = vs.length := rl.length.symm
  have er := rl.entry (N.length - vs.length)
  refine ⟨Pg, entry N.length ds, As, ⟨un, by unfold entry L2.start; rw [hds]; exact er, nd, off, mks⟩, ?_⟩
  unfold runDef at h
  cases hS : S (entry N.length ds) with
  | bad => rw [hS] at h; exact h.elim
  | bk ρ => rw [hS] at h; exact h.elim
  | nx ρ =>
    rw [hS] at h
    cases ho : outsOf L ρ with
    | none => simp only [ho] at h
    | some os =>
      simp only [ho] at h
      intro σ' P' H' A' a
      obtain ⟨xs, C, R, p, r, g⟩ := a.st.env.picks hL ho
      have e := pick_of g a.pin
      have cA : ∀ b ∈ C, b ∈ A' := fun b hb => p.symm.subset (List.mem_append_left _ hb)
      exact h .non P' H' [] C a.ext .non (e ▸ r) (by simpa using (List.nodup_append.mp (p.nodup_iff.mp a.st.nd)).1) fun b hb => ⟨a.st.off b (cA b (by simpa using hb)), a.sub b (cA b (by simpa using hb))⟩
  | rt d ρ =>
    rw [hS] at h
    cases ho : outsOf L ρ with
    | none => simp only [ho] at h
    | some os =>
      simp only [ho] at h
      intro v σ' P' H' A' B a rv ndB fB
      obtain ⟨xs, C, R, p, r, g⟩ := a.st.env.picks hL ho
      have e := pick_of g a.pin
      have cA : ∀ b ∈ C, b ∈ A' := fun b hb => p.symm.subset (List.mem_append_left _ hb)
      obtain ⟨m1, m2, m3⟩ := List.nodup_append.mp ndB
      refine h v P' H' B C a.ext rv (e ▸ r) (List.nodup_append.mpr ⟨m1, (List.nodup_append.mp (p.nodup_iff.mp a.st.nd)).1, fun x hx y hy => m3 x hx y (cA y hy)⟩) fun b hb => ?_
      rcases List.mem_append.mp hb with z | z
      · exact fB b z
      · exact ⟨a.st.off b (cA b z), a.sub b (cA b z)⟩
  | exc x ρ =>
    rw [hS] at h
    cases ho : outsOf L ρ with
    | none => simp only [ho] at h
    | some os =>
      simp only [ho] at h
      intro cls dx σ' P' H' A' a xr
      obtain ⟨xs, C, R, p, r, g⟩ := a.st.env.picks hL ho
      have e := pick_of g a.pin
      have cA : ∀ b ∈ C, b ∈ A' := fun b hb => p.symm.subset (List.mem_append_left _ hb)
      exact h cls dx P' H' C a.ext xr (e ▸ r) (List.nodup_append.mp (p.nodup_iff.mp a.st.nd)).1 fun b hb => ⟨a.st.off b (cA b hb), a.sub b (cA b hb)⟩
theorem fn_ok {k : Nat} {x qual : Str} {st : Stmt} {f : Addr} {fd : FuncData} {N ps : List Str} {S : Env → SRes} {L : List Nat} (F : Fun K x qual st f fd) (Sc : FnScope N ps (defScope st)) (hL : L.Nodup)
    (body : ∀ (X : Cx) (W : WX) (cdv : Value) (A : Around) (outer : List PySem.Env) (s : Shared) (H : Hp) (E : XK), X = cxOf (L2.CX P w) P w K mg base N qual (defScope st) f cdv A outer s H E → GRoom k X.A → Takes X W → PassesOwn (model X.prog X.w) X.A X.env X.xe → SsOk X W L (defBody st) S) :
    FnG P w K mg base (k + 1) f fd ps (spF ⟨K, mg⟩ ps.length L (runDef N.length L S)) := fn_okC F Sc hL fun X W cdv A outer s H E e _ => body X W cdv A outer s H E e
end
section
variable {X : Cx} {W : WX} {k : Nat} {f : Addr} {fd : FuncData} {ps : List Str} {sp : Sp} {x : Str} {p pos : Pos} {e : Expr} {es : List Expr}
theorem run_fnG {pins : List (Addr × Obj)} {σ : Sl} {H : Hp} {s : Shared} {Q : VK} {us : List Value} {vs : List V} (F : FnG X.prog X.w X.K X.mg X.base k f fd ps sp) (hr : GRoom k X.A) (hb : Binds X.K fd ps []) (tk : Takes X W)
    (I : Inv X pins σ H s) (r : Vals vs us) (h : sp vs H Q fun cls d H' => W cls d σ H') : wpAny (model X.prog X.w) X.A (call (.ref f) us) (EP X pins σ Q) X.xe s := by
  have lens := F.len _ _ _ _ h
  have bt := hb s us I.kIn (by rw [List.append_nil, ← r.length]; exact lens)
  rw [List.append_nil] at bt
  apply wpAny_call
  apply codeAny_mono (F.run X.A X.stack s H ⟨us, []⟩ us vs Q _ hr I.env0 bt r h)
  intro res s' q
  cases res with
  | error u => exact tk u s' (XE.of_call I (fun _ _ _ z => z) q)
  | ok fl =>
    cases fl with
    | ret u => exact I.after q
    | next => exact q.elim
    | brk => exact q.elim
    | cont => exact q.elim
def sCallF (n : Nat) (φ : List D → FR) (S : Env → Res (List D)) : Env → Res D := fun ρ => (S ρ).bind fun ds => if ds.length = n then (match φ (frzL ds) with
  | .ok d _ => .ok d
  | .exc x _ => .exc x
  | .bad => .bad) else .bad
theorem give_ext0 {P H P1 H1 : Hp} {B : List Addr} (u : Under P H) (e : Ext P H P1 H1 []) (f : Fresh P1 H B) : Ext P H (give P1 H1 B) H1 [] ∧ Same P1 (give P1 H1 B) := by
  have g := give_ext (A := B) e.und fun b hb => (f.2 b hb).2
  refine ⟨⟨e.same.trans g.same, g.und, e.keep, e.lck, fun b w q => ?_⟩, g.same⟩
  rcases g.new b w q with z | z | z
  · exact e.new b w z
  · exact .inr (.inl (e.free u z))
  · exact .inr (.inl (f.2 b z).1)
theorem spF_of {G : Gd} {φ : List D → FR} {n : Nat} {P H P1 H1 : Hp} {vs : List V} {ds : List D} {B : List Addr} {Q : VK} {E : XK} {W : WX} {σ : Sl} (u : Under P H) (mk : Marks G P) (e : Ext P H P1 H1 []) (r : RelL G P1 H1 vs ds B) (f : Fresh P1 H B) (hn : vs.length = n)
    (h : match φ (frzL ds) with
      | .ok d _ => Post G P H Q d
      | .exc x _ => PostX G P H W σ x
      | .bad => False) (hE : ∀ cls d H', W cls d σ H' → E cls d H') : spF G n [] φ vs H1 Q E := by
  obtain ⟨e2, sm⟩ := give_ext0 u e f
  refine ⟨hn, give P1 H1 B, frzL ds, [], e2.und, mk.mono e2.same, r.frz sm fun b hb => give_in hb, List.nodup_nil, fun b hb => by simp at hb, ?_⟩
  cases hφ : φ (frzL ds) with
  | bad => rw [hφ] at h; exact h.elim
  | ok d os =>
    rw [hφ] at h
    intro v P' H' B' C e3 rv rc nd fr
    refine h v P' H' B' (e2.trans u e3) rv ⟨(List.nodup_append.mp nd).1, fun b hb => ?_⟩
    obtain ⟨q1, q2⟩ := fr b (List.mem_append_left _ hb)
    rcases q2 with z | z
    · exact ⟨e2.free u z, q1⟩
    · simp at z
  | exc x os =>
    rw [hφ] at h
    intro cls dx P' H' C e3 xr rc nd fr
    exact hE _ _ _ (h cls dx P' H' (e2.trans u e3) xr)
theorem callF_post {n : Nat} {φ : List D → FR} {S : Env → Res (List D)} {P H : Hp} {ρ : Env} {Q : VK} {σ : Sl} {ds : List D} (hs : S ρ = .ok ds) (h : match sCallF n φ S ρ with
      | .ok d => Post (gd X) P H Q d
      | .exc x => PostX (gd X) P H W σ x
      | .bad => False) : ds.length = n ∧ match φ (frzL ds) with
      | .ok d _ => Post (gd X) P H Q d
      | .exc x _ => PostX (gd X) P H W σ x
      | .bad => False := by
  unfold sCallF at h
  simp only [hs, Res.bind] at h
  by_cases hn : ds.length = n
  · rw [if_pos hn] at h
    refine ⟨hn, ?_⟩
    cases hφ : φ (frzL ds) <;> simp only [hφ] at h <;> exact h
  · rw [if_neg hn] at h; exact h.elim
theorem RelL.len2 {G : Gd} {P H : Hp} {vs : List V} {ds : List D} {A : List Addr} (r : RelL G P H vs ds A) : ds.length = vs.length := r.length.symm
theorem e_call {φ : List D → FR} {S : Env → Res (List D)} (F : FnG X.prog X.w X.K X.mg X.base k f fd ps (spF (gd X) ps.length [] φ)) (hr : GRoom k X.A) (hm : X.mg x = some (.ref f)) (hk : PySem.W.keepIn X.K (.ref f) = true) (hb : Binds X.K fd ps []) (tk : Takes X W)
    (ha : AOk X W (e :: es) S) (hg : Gl X x := by rfl) (hdb : (x == ("__debug__" : Str)) = false := by decide) (he : starEach (e :: es) X.env = (false, eval e X.env) :: starEach es X.env := by rfl) (hpl : (backTo pos (starEach es X.env)).any (·.1) = false := by rfl) :
    EOk X W (.Call (.Name x p) (e :: es) [] pos) (sCallF ps.length φ S) := ⟨⟨fun pins s σ H Q I ⟨P, ρ, A, st, h⟩ => by
  have ht : tL (gd X) W S σ H fun vs H1 => spF (gd X) ps.length [] φ vs H1 Q fun cls d H' => W cls d σ H' := by
    refine ⟨P, ρ, A, st, ?_⟩
    cases hs : S ρ with
    | bad => simp only [sCallF, hs, Res.bind] at h
    | exc z => simp only [sCallF, hs, Res.bind] at h; exact h
    | ok ds =>
      obtain ⟨hn, h'⟩ := callF_post hs h
      exact fun vs P1 H1 B e1 r f => spF_of st.und st.mks e1 r f (r.length.trans hn) h' fun _ _ _ z => z
  apply wpAny_Call_Name_kw
  refine ld_glob I hg hm ?_ hdb
  refine PySem.W.callWith_K (h₀ := X.base) I.ok.mod.kin hk ?_ he hpl
  apply thn (ha.pa.run pos pins s σ H _ I ht)
  intro us s1 ⟨vs, H1, I1, r, q⟩
  exact ⟨I1.kIn, run_fnG F hr hb tk I1 r q⟩⟩⟩
end
end RL
namespace RL
open PySem PySem.Spec PyProof.Rows L2
section
variable {P : Program} {w : World} {K : PySem.W.Frag} {mg mb : Str → Option Value} {k : Nat} {fa a : Addr} {fd : FuncData} {x : Str} {φ : List D → FR} {s : Shared} {vs : List Value} {ns : List Int}
theorem look_mem {α : Type} {a : Addr} {b : α} : ∀ {l : List (Addr × α)}, l.lookup a = some b → (a, b) ∈ l
  | [], h => by simp at h
  | (c, d) :: l, h => by
    rw [List.lookup_cons] at h
    by_cases e : a = c
    · subst e
      simp at h
      simp [h]
    · have : (a == c) = false := by simpa using e
      rw [this] at h
      exact List.mem_cons_of_mem _ (look_mem h)
structure CtabOk (K : PySem.W.Frag) (h : Heap) : Prop where
  empty : ∀ p ∈ tabsOf K, h.get? p.1 = some { cls := .none, data := .fields #[] }
  out : ∀ p ∈ tabsOf K, K.lookup p.1 = none
  one : ∀ p ∈ tabsOf K, ∀ p' ∈ tabsOf K, p.1 = p'.1 → p = p'
  code : ∀ p ∈ tabsOf K, ∃ c, PySem.W.CodeHd h c p.1
theorem CtabOk.keeps {K : PySem.W.Frag} {h h' : Heap} (t : CtabOk K h) (k : ∀ b o, h.get? b = some o → h'.get? b = some o) : CtabOk K h' where
  empty := fun p hp => k _ _ (t.empty p hp)
  out := t.out
  one := t.one
  code := fun p hp => by
    obtain ⟨c, o, us, file, tf, flags, tg, inF, text, tt, e1, r⟩ := t.code p hp
    exact ⟨c, o, us, file, tf, flags, tg, inF, text, tt, k _ _ e1, r⟩
def TabsB (K : PySem.W.Frag) (mg : Str → Option Value) (base : Heap) : Prop := ∀ p ∈ tabsOf K, base.BuiltinsAt mg p.1 ∧ mainGlobals ≠ p.1 ∧ K.lookup p.1 = none
theorem enter {H Pk : Hp} (KX : K.In s.heap) (hns : s.heap.Ns mainGlobals mg) (hb : s.heap.Ns builtinsNs mb) (hbb : ∀ x : Str, x ≠ "__name__" → mb x = bootBuiltins x) (hlim : s.heap.NoLimit) (hg : s.gens = #[]) (T : CtabOk K s.heap)
    (hbm : ∃ (bm : Addr) (ob : Obj), mg "__builtins__" = some (.ref bm) ∧ bm ≠ builtinsNs ∧ s.heap.get? bm = some ob ∧ ob.cls = .type "module" ∧ ob.dict = some builtinsNs ∧ ob.data = .plain)
    (ha : s.heap.get? a = some { cls := .type "list", data := .seq vs.toArray }) (hr : GRoom k callerA) (F : ∀ base : Heap, K.In base → base.Ns mainGlobals mg → TabsB K mg base → FnG P w K mg base k fa fd [x] (spF ⟨K, mg⟩ 1 [] φ))
    (hbind : ∀ (s : Shared) (u : Value), BindsTo s fd ⟨[u], []⟩ [(x, u)]) (hφ : ∃ os, φ [.scr ns] = .ok (.bl true) os) (hS : SqL K Pk a (ns.map V.int)) (hok : HOk P w H s.heap) (und : Under Pk H) (mks : Marks ⟨K, mg⟩ Pk)
    (only : ∀ b u, H b = some u → (b = a ∧ ∃ o ys, u = .frz o (.lst ys)) ∨ (b ∈ (tabsOf K).map (·.1) ∧ u = .tbl #[])) (tbl : ∀ p ∈ tabsOf K, H p.1 = some (.tbl #[])) (free : ∀ o ys, H a = some (.frz o ys) → K.lookup a = none) :
    codeAny (model P w) callerA (.call (.ref fa) ⟨[.ref a], []⟩) (fun r s' => r = .ok (.ret (.bool true)) ∧ OldK s.heap s'.heap ∧ s'.os = s.os ∧ AllBare s'.gens) s := by
  have isT : ∀ b ∈ (tabsOf K).map (·.1), s.heap.get? b = some { cls := .none, data := .fields #[] } := by
    intro b q
    obtain ⟨p, hp, rfl⟩ := List.mem_map.mp q
    exact T.empty p hp
  have away : ∀ {b : Addr} {o : Obj}, s.heap.get? b = some o → b ≠ a → b ∉ (tabsOf K).map (·.1) → (hidT s.heap H).get? b = some o := by
    intro b o q ne nt
    apply hidT_get q
    cases z : H b with
    | none => rfl
    | some u =>
      rcases only b u z with ⟨e, _⟩ | ⟨e, _⟩
      · exact absurd e ne
      · exact absurd e nt
  have spare : ∀ {b : Addr} {o : Obj}, s.heap.get? b = some o → (∀ vs n, o.data ≠ .seq vs n) → o.data ≠ .fields #[] → b ≠ a ∧ b ∉ (tabsOf K).map (·.1) := by
    intro b o q d1 d2
    constructor
    · rintro rfl
      rw [ha] at q
      cases q
      exact d1 _ _ rfl
    · intro z
      rw [isT b z] at q
      cases q
      exact d2 rfl
  have space : ∀ {b : Addr} {m : Str → Option Value}, s.heap.Ns b m → (hidT s.heap H).Ns b m := by
    rintro b m ⟨o, es, ep, q, d, rest⟩
    obtain ⟨n1, n2⟩ := spare q (by intro _ _ z; rw [d] at z; cases z) (by intro z; rw [d] at z; cases z)
    exact ⟨o, es, ep, away q n1 n2, d, rest⟩
  have kin : K.In (hidT s.heap H) := by
    intro b o q
    have nt : b ∉ (tabsOf K).map (·.1) := by
      intro z
      obtain ⟨p, hp, rfl⟩ := List.mem_map.mp z
      rw [T.out p hp] at q
      cases q
    by_cases ne : b = a
    · subst ne
      apply hidT_get (KX _ _ q)
      cases z : H b with
      | none => rfl
      | some u =>
        rcases only b u z with ⟨_, o, ys, rfl⟩ | ⟨e, _⟩
        · rw [free o _ z] at q; cases q
        · exact absurd e nt
    · exact away (KX _ _ q) ne nt
  have md : Mod K mg (hidT s.heap H) := by
    obtain ⟨mc, l1, l2⟩ := hlim
    exact ⟨kin, space hns, ⟨mb, space hb, hbb⟩, ⟨mc, space l1, l2⟩⟩
  have env : Env0 P w K mg (hidT s.heap H) callerA [] s H := by
    refine ⟨rfl, md, fun b o q => of_hidT q, Nat.le_of_eq (hidT_size _ _), trivial, ?_, hok, .of_eq hg⟩
    intro b hb
    cases hb
  have tb : TabsB K mg (hidT s.heap H) := by
    intro p hp
    have e0 := T.empty p hp
    obtain ⟨bm, ob, b1, b2, b3, b4, b5, b6⟩ := hbm
    have nG : bm ≠ mainGlobals := by
      rintro rfl
      obtain ⟨o, es, ep, e, hd, _⟩ := hns
      rw [e] at b3
      cases b3
      rw [hd] at b6
      cases b6
    have nP : bm ≠ p.1 := by
      intro q
      rw [q, e0] at b3
      cases b3
      cases b6
    obtain ⟨n1, n2⟩ := spare b3 (by intro _ _ z; rw [b6] at z; cases z) (by intro z; rw [b6] at z; cases z)
    refine ⟨⟨bm, ob, b1, b2, nG, nP, away b3 n1 n2, b4, b5, b6⟩, ?_, T.out p hp⟩
    intro z
    obtain ⟨o, es, ep, e, hd, _⟩ := hns
    rw [z, e0] at e
    cases e
    cases hd
  have prom : spF ⟨K, mg⟩ 1 [] φ [.ref a] H (fun v _ => v = .bl true) fun _ _ _ => False := by
    obtain ⟨os, hφ⟩ := hφ
    refine ⟨rfl, Pk, [.scr ns], [], und, mks, .cons (A := []) (B := []) (.scr hS) .nil, List.nodup_nil, fun b hb => by simp at hb, ?_⟩
    rw [hφ]
    intro v P' H' B C _ r _ _ _
    cases r
    rfl
  apply codeAny_mono ((F _ kin (space hns) tb).run callerA [] s H ⟨[.ref a], []⟩ [.ref a] [.ref a] _ _ hr env (hbind s (.ref a)) (.cons rfl .nil) prom)
  intro r s' h
  cases r with
  | error e =>
    obtain ⟨_, _, _, _, _, _, _, _, _, _, _, _, z⟩ := h
    exact z.elim
  | ok fl =>
    cases fl with
    | next => exact h.elim
    | brk => exact h.elim
    | cont => exact h.elim
    | ret u =>
      obtain ⟨v, H', os, bare, un, hok', rv, e⟩ := h
      have e : v = .bl true := e
      subst e
      have e : u = Value.bool true := rv
      subst e
      have same : ∀ b o, b ∉ (tabsOf K).map (·.1) → s.heap.get? b = some o → s'.heap.get? b = some o := by
        intro b o nt q
        cases z : H b with
        | none =>
          apply un.keep b o q z
          · intro y; cases y
          · intro y; cases y
        | some u =>
          rcases only b u z with ⟨rfl, ob, ys, rfl⟩ | ⟨e, _⟩
          · have z2 := un.frzs _ _ _ z
            have h1 := (hok _ _ z).1
            have h2 := (hok' _ _ z2).1
            rw [q] at h1
            cases h1
            exact h2
          · exact absurd e nt
      have grown : ∀ p ∈ tabsOf K, ∃ more : Array Value, s'.heap.get? p.1 = some { cls := .none, data := .fields more } := by
        intro p hp
        obtain ⟨more, z⟩ := un.tbls p.1 #[] (tbl p hp)
        exact ⟨_, hok' p.1 _ z⟩
      refine ⟨rfl, ⟨?_, ?_⟩, os, bare⟩
      · intro b o q
        by_cases nt : b ∈ (tabsOf K).map (·.1)
        · obtain ⟨p, hp, rfl⟩ := List.mem_map.mp nt
          obtain ⟨more, hm⟩ := grown p hp
          obtain ⟨c, C⟩ := T.code p hp
          rw [T.empty p hp] at q
          cases q
          refine .inr (.inl ⟨(C.tab (T.empty p hp)).isCodeTable, rfl, #[], more, rfl, ?_⟩)
          rw [Array.empty_append]
          exact hm
        · exact .inl (same b o nt q)
      · intro b o q
        by_cases nt : b ∈ (tabsOf K).map (·.1)
        · obtain ⟨p, hp, rfl⟩ := List.mem_map.mp nt
          obtain ⟨more, hm⟩ := grown p hp
          exact ⟨_, hm⟩
        · exact ⟨o, same b o nt q⟩
theorem enters (KX : K.In s.heap) (hns : s.heap.Ns mainGlobals mg) (hb : s.heap.Ns builtinsNs mb) (hbb : ∀ x : Str, x ≠ "__name__" → mb x = bootBuiltins x) (hlim : s.heap.NoLimit) (hg : s.gens = #[]) (T : CtabOk K s.heap)
    (hbm : ∃ (bm : Addr) (ob : Obj), mg "__builtins__" = some (.ref bm) ∧ bm ≠ builtinsNs ∧ s.heap.get? bm = some ob ∧ ob.cls = .type "module" ∧ ob.dict = some builtinsNs ∧ ob.data = .plain)
    (ha : s.heap.get? a = some { cls := .type "list", data := .seq vs.toArray }) (hi : IntsAre vs ns) (hl : ns.length ≤ sizeLine) (hr : GRoom k callerA) (F : ∀ base : Heap, K.In base → base.Ns mainGlobals mg → TabsB K mg base → FnG P w K mg base k fa fd [x] (spF ⟨K, mg⟩ 1 [] φ))
    (hbind : ∀ (s : Shared) (u : Value), BindsTo s fd ⟨[u], []⟩ [(x, u)]) (hφ : ∃ os, φ [.scr ns] = .ok (.bl true) os) :
    codeAny (model P w) callerA (.call (.ref fa) ⟨[.ref a], []⟩) (fun r s' => r = .ok (.ret (.bool true)) ∧ OldK s.heap s'.heap ∧ s'.os = s.os ∧ AllBare s'.gens) s := by
  have rel := vals_ints hi
  have size := hi.length
  have nat : a ∉ (tabsOf K).map (·.1) := by
    intro z
    obtain ⟨p, hp, e⟩ := List.mem_map.mp z
    have q := T.empty p hp
    rw [e, ha] at q
    cases q
  have lk : ∀ p ∈ tabsOf K, (tabsOf K).lookup p.1 = some p.2 := by
    intro p hp
    cases q : (tabsOf K).lookup p.1 with
    | none =>
      have := List.lookup_eq_none_iff.mp q p hp
      simp at this
    | some y =>
      have hm : (p.1, y) ∈ tabsOf K := look_mem q
      have e := T.one p hp (p.1, y) hm rfl
      rw [e]
  let o : Obj := { cls := .type "list", data := .seq vs.toArray }
  let base : Hp := fun b => if b ∈ (tabsOf K).map (·.1) then some (.tbl #[]) else none
  let baseP : Hp := fun b => ((tabsOf K).lookup b).map mark
  have base_in : ∀ {b}, b ∈ (tabsOf K).map (·.1) → base b = some (.tbl #[]) := fun h => if_pos h
  have base_out : ∀ {b}, b ∉ (tabsOf K).map (·.1) → base b = none := fun h => if_neg h
  have baseP_out : ∀ {b}, b ∉ (tabsOf K).map (·.1) → baseP b = none := by
    intro b h
    show ((tabsOf K).lookup b).map mark = none
    cases q : (tabsOf K).lookup b with
    | none => rfl
    | some y => exact absurd (List.mem_map.mpr ⟨(b, y), look_mem q, rfl⟩) h
  have und0 : ∀ b u, baseP b = some u → ∃ q ps, u = mark q ∧ base b = some (.tbl ps) ∧ TriplesOk ps.toList ∧ ∀ (pos : Pos) (cv : Value), codeAmong pos ps.toList = some cv → False := by
    intro b u z
    have z : ((tabsOf K).lookup b).map mark = some u := z
    cases q : (tabsOf K).lookup b with
    | none => rw [q] at z; cases z
    | some y =>
      rw [q] at z
      cases z
      refine ⟨y, #[], rfl, base_in (List.mem_map.mpr ⟨(b, y), look_mem q, rfl⟩), True.intro, fun pos cv hc => ?_⟩
      have hc : codeAmong pos [] = some cv := hc
      simp [codeAmong] at hc
  have mk0 : ∀ p ∈ tabsOf K, baseP p.1 = some (mark p.2) := by
    intro p hp
    show ((tabsOf K).lookup p.1).map mark = _
    rw [lk p hp]
    rfl
  have inT : ∀ p ∈ tabsOf K, p.1 ∈ (tabsOf K).map (·.1) := fun p hp => List.mem_map.mpr ⟨p, hp, rfl⟩
  have nea : ∀ p ∈ tabsOf K, p.1 ≠ a := fun p hp e => nat (e ▸ inT p hp)
  have isT : ∀ b ∈ (tabsOf K).map (·.1), s.heap.get? b = some { cls := .none, data := .fields #[] } := by
    intro b q
    obtain ⟨p, hp, rfl⟩ := List.mem_map.mp q
    exact T.empty p hp
  cases q : K.lookup a with
  | none =>
    have at_a : upd base a (.frz o (.lst (ns.map V.int))) a = some (.frz o (.lst (ns.map V.int))) := upd_same
    refine enter (H := upd base a (.frz o (.lst (ns.map V.int)))) (Pk := upd baseP a (.frz o (.lst (ns.map V.int)))) KX hns hb hbb hlim hg T hbm ha hr F hbind hφ (.inl (.inr ⟨o, upd_same⟩)) ?_ ?_ ?_ ?_ ?_ ?_
    · intro b u z
      by_cases e : b = a
      · subst e
        rw [upd_same] at z
        cases z
        exact ⟨ha, by rw [List.length_map]; exact hl, vs, _, rel, ha⟩
      · rw [upd_ne e] at z
        by_cases h2 : b ∈ (tabsOf K).map (·.1)
        · rw [base_in h2] at z
          cases z
          exact isT b h2
        · rw [base_out h2] at z
          cases z
    · intro b u z
      by_cases e : b = a
      · subst e
        rw [upd_same] at z ⊢
        exact .inl z
      · rw [upd_ne e] at z ⊢
        obtain ⟨y, ps, e1, e2, e3, e4⟩ := und0 b u z
        exact .inr (.inr ⟨y, ps, e1, e2, e3, fun pos cv hc => (e4 pos cv hc).elim⟩)
    · intro p hp
      rw [upd_ne (nea p hp)]
      exact mk0 p hp
    · intro b u z
      by_cases e : b = a
      · subst e
        rw [upd_same] at z
        cases z
        exact .inl ⟨rfl, _, _, rfl⟩
      · rw [upd_ne e] at z
        by_cases h2 : b ∈ (tabsOf K).map (·.1)
        · rw [base_in h2] at z
          cases z
          exact .inr ⟨h2, rfl⟩
        · rw [base_out h2] at z
          cases z
    · intro p hp
      rw [upd_ne (nea p hp)]
      exact base_in (inT p hp)
    · intro _ _ _
      exact q
  | some ob =>
    have e := KX a ob q
    rw [ha] at e
    cases e
    refine enter (H := base) (Pk := baseP) KX hns hb hbb hlim hg T hbm ha hr F hbind hφ (.inr ⟨_, vs.toArray, _, q, rfl, rfl, rfl, ?_, ?_⟩) ?_ ?_ ?_ ?_ ?_ ?_
    · rw [List.size_toArray, size]; exact hl
    · simpa using rel
    · intro b u z
      by_cases h2 : b ∈ (tabsOf K).map (·.1)
      · rw [base_in h2] at z
        cases z
        exact isT b h2
      · rw [base_out h2] at z
        cases z
    · intro b u z
      obtain ⟨y, ps, e1, e2, e3, e4⟩ := und0 b u z
      exact .inr (.inr ⟨y, ps, e1, e2, e3, fun pos cv hc => (e4 pos cv hc).elim⟩)
    · exact mk0
    · intro b u z
      by_cases h2 : b ∈ (tabsOf K).map (·.1)
      · rw [base_in h2] at z
        cases z
        exact .inr ⟨h2, rfl⟩
      · rw [base_out h2] at z
        cases z
    · exact fun p hp => base_in (inT p hp)
    · intro o' ys z
      rw [base_out nat] at z
      cases z
end
theorem walkG {l : PySem.W.OpenLaw} {n k : Nat} {q : Program} {loose : List Str} {XP : (Str → Option Value) → Heap → Prop} {YP : World → Heap → Prop} {d : DefRec} {x : Str} (hn : l.most = some n) (hn2 : n ≤ sizeLine) (hdf : d.params.defaults = []) (hr : Room k callerA)
    (F : ∀ (w : World) (mg : Str → Option Value) (fa : Addr) (h : Heap), YP w h → h.Ns mainGlobals mg → mg d.name = some (.ref fa) → ∃ (K : PySem.W.Frag) (fd : FuncData) (φ : List D → FR), K.In h ∧ CtabOk K h ∧ (∀ (s : Shared) (u : Value), BindsTo s fd ⟨[u], []⟩ [(x, u)]) ∧
      (∀ ns : List Int, ns.length ≤ n → ∃ os, φ [.scr ns] = .ok (.bl true) os) ∧ ∀ base : Heap, K.In base → base.Ns mainGlobals mg → TabsB K mg base → FnG l.prog w K mg base k fa fd [x] (spF ⟨K, mg⟩ 1 [] φ)) :
    PySem.W.WalkO q loose XP YP l.row.toRowW d [] fun f vs => PySem.call f vs := by
  apply Att.attach_call hn hdf
  intro w s₀ s₁ mg mb fa o pm cd doc a vs ns G Y ho hd hcd hmg hobj hints hlen hg
  obtain ⟨K, fd, φ, KX, TK, hb, hφ, hF⟩ := F w mg fa _ Y G.T.g hmg
  exact enters KX G.T.g G.T.b G.T.builtins G.T.nolimit hg TK G.T.bmain hobj hints (Nat.le_trans hlen hn2) ⟨hr, rfl⟩ hF hb (hφ ns hlen)
end RL
namespace RL
open PySem PySem.Spec PyProof.Rows L2
def keySml : Key → Bool
  | .inl i => sml i
  | .inr x => PyData.strOk x
def repN : Nat → D → Bool
  | _, .non => true
  | _, .bl _ => true
  | _, .int i => sml i
  | _, .str x => PyData.strOk x
  | n + 1, .tup ds => ds.all (repN n)
  | n + 1, .lst _ ds => ds.all (repN n)
  | n + 1, .dct _ ks ds => ks.all keySml && ds.all (repN n)
  | _, _ => false
mutual
def costD : D → Nat
  | .int _ => 1910
  | .str x => 10 * x.length + 2
  | .tup ds => costL ds + 4
  | .lst _ ds => costL ds + 4
  | .dct _ ks ds => costK ks + costL ds + 4
  | _ => 5
def costL : List D → Nat
  | [] => 0
  | d :: ds => costD d + 2 + costL ds
def costK : List Key → Nat
  | [] => 0
  | .inl _ :: ks => 1912 + costK ks
  | .inr x :: ks => 10 * x.length + 4 + costK ks
end
theorem showableAll_of : ∀ {ds : List PyData}, (∀ d ∈ ds, d.showable = true) → PyData.showableAll ds = true
  | [], _ => rfl
  | d :: ds, h => by
    rw [PyData.showableAll, h d List.mem_cons_self, showableAll_of fun e he => h e (List.mem_cons_of_mem _ he)]
    rfl
theorem showableKv_of : ∀ {ks : List Key} {ds : List PyData}, (∀ k ∈ ks, keySml k = true) → (∀ d ∈ ds, d.showable = true) → PyData.showableKv ((ks.map keyPy).zip ds) = true
  | [], _, _, _ => by simp [PyData.showableKv]
  | _ :: _, [], _, _ => by simp [PyData.showableKv]
  | k :: ks, d :: ds, h, h' => by
    have hk : (keyPy k).showable = true := by
      have := h k List.mem_cons_self
      cases k with
      | inl i => simp only [keySml, sml, decide_eq_true_eq] at this; simp only [keyPy, PyData.showable, decide_eq_true_eq]; omega
      | inr x => simp [keyPy, PyData.showable]
    rw [List.map_cons, List.zip_cons_cons, PyData.showableKv, hk, h' d List.mem_cons_self, showableKv_of (fun e he => h e (List.mem_cons_of_mem _ he)) fun e he => h' e (List.mem_cons_of_mem _ he)]
    rfl
theorem depthKv_of {n : Nat} : ∀ {ks : List Key} {ds : List PyData}, (∀ d ∈ ds, d.depth ≤ n) → PyData.depthKv ((ks.map keyPy).zip ds) ≤ n
  | [], _, _ => by simp [PyData.depthKv]
  | _ :: _, [], _ => by simp [PyData.depthKv]
  | k :: ks, d :: ds, h => by
    have h1 := h d List.mem_cons_self
    have h2 := depthKv_of (ks := ks) fun e he => h e (List.mem_cons_of_mem d he)
    have h3 : (keyPy k).depth = 0 := by cases k <;> simp [keyPy, PyData.depth]
    simp only [List.map_cons, List.zip_cons_cons, PyData.depthKv]
    omega
theorem repN_ok : ∀ {n : Nat} {d : D}, repN n d = true → d.py.showable = true ∧ d.py.depth ≤ n + 1
  | n, .non, _ => by simp [D.py, PyData.showable, PyData.depth]
  | n, .bl b, _ => by simp [D.py, PyData.showable, PyData.depth]
  | n, .str b, _ => by simp [D.py, PyData.showable, PyData.depth]
  | n, .int i, h => by
    have h' : sml i = true := by cases n <;> simpa [repN] using h
    simp only [sml, decide_eq_true_eq] at h'
    refine ⟨?_, by simp [D.py, PyData.depth]⟩
    simp only [D.py, PyData.showable, decide_eq_true_eq]; omega
  | 0, .tup ds, h => by simp [repN] at h
  | n + 1, .tup ds, h => by
    have h' : ∀ d ∈ ds, repN n d = true := by simpa [repN] using h
    have q : ∀ d ∈ ds.map D.py, d.showable = true ∧ d.depth ≤ n + 1 := fun d hd => by
      obtain ⟨e, he, rfl⟩ := List.mem_map.mp hd
      exact repN_ok (h' e he)
    simp only [D.py, pyL_eq, PyData.showable, PyData.depth]
    have := depthAll_of fun d hd => (q d hd).2
    exact ⟨showableAll_of fun d hd => (q d hd).1, by omega⟩
  | 0, .lst _ ds, h => by simp [repN] at h
  | n + 1, .lst _ ds, h => by
    have h' : ∀ d ∈ ds, repN n d = true := by simpa [repN] using h
    have q : ∀ d ∈ ds.map D.py, d.showable = true ∧ d.depth ≤ n + 1 := fun d hd => by
      obtain ⟨e, he, rfl⟩ := List.mem_map.mp hd
      exact repN_ok (h' e he)
    simp only [D.py, pyL_eq, PyData.showable, PyData.depth]
    have := depthAll_of fun d hd => (q d hd).2
    exact ⟨showableAll_of fun d hd => (q d hd).1, by omega⟩
  | 0, .dct _ _ ds, h => by simp [repN] at h
  | n + 1, .dct _ ks ds, h => by
    have h' : (∀ k ∈ ks, keySml k = true) ∧ ∀ d ∈ ds, repN n d = true := by simpa [repN] using h
    have q : ∀ d ∈ ds.map D.py, d.showable = true ∧ d.depth ≤ n + 1 := fun d hd => by
      obtain ⟨e, he, rfl⟩ := List.mem_map.mp hd
      exact repN_ok (h'.2 e he)
    simp only [D.py, pyL_eq, PyData.showable, PyData.depth]
    have := depthKv_of (ks := ks) fun d hd => (q d hd).2
    exact ⟨showableKv_of h'.1 fun d hd => (q d hd).1, by omega⟩
  | 0, .obj _ _ _ _, h => by simp [repN] at h
  | n + 1, .obj _ _ _ _, h => by simp [repN] at h
  | 0, .exn _ _ _, h => by simp [repN] at h
  | n + 1, .exn _ _ _, h => by simp [repN] at h
  | 0, .scr _, h => by simp [repN] at h
  | n + 1, .scr _, h => by simp [repN] at h
  | 0, .tux _, h => by simp [repN] at h
  | n + 1, .tux _, h => by simp [repN] at h
theorem joined_le (ts : List Str) : (Str.join ", " ts).length ≤ piled ts := by
  by_cases h : ts = []
  · subst h; decide
  · have := join_length_add ts h
    omega
theorem brackets_le (a b : Str) (ts : List Str) (ha : a.length ≤ 2) (hb : b.length ≤ 2) : (a ++ Str.join ", " ts ++ b).length ≤ piled ts + 4 := by
  have := joined_le ts
  rw [strLen_append, strLen_append]
  omega
theorem strOk_lt {x : Str} (h : PyData.strOk x = true) : ∀ c ∈ x.cps.toList, c < 16 ^ 8 := fun c hc => by
  unfold PyData.strOk at h
  rw [← Array.all_toList] at h
  have := List.all_eq_true.mp h c hc
  have := of_decide_eq_true this
  omega
theorem keyShown_le (k : Key) (h : keySml k = true) : (keyPy k).shown.length + 2 ≤ costK [k] := by
  cases k with
  | inl i =>
    simp only [keySml, sml, decide_eq_true_eq] at h
    have e := int_text_length_le (a := i) (k := 1900) (by decide) h
    simp only [keyPy, PyData.shown, costK]
    rw [PySem.ofString_length]
    omega
  | inr x =>
    have := PySem.StrLaws.reprText_len x (strOk_lt h)
    simp only [keyPy, PyData.shown, costK]
    omega
theorem piledC : ∀ {ds : List D}, (∀ d ∈ ds, d.py.shown.length ≤ costD d) → piled (PyData.shownAll (pyL ds)) ≤ costL ds
  | [], _ => by simp [pyL, PyData.shownAll, piled, costL]
  | d :: ds, h => by
    have h1 := h d List.mem_cons_self
    have h2 := piledC fun e he => h e (List.mem_cons_of_mem d he)
    simp only [pyL, PyData.shownAll, costL, piled_cons]
    omega
theorem piledK : ∀ {ks : List Key} {ds : List D}, (∀ k ∈ ks, keySml k = true) → (∀ d ∈ ds, d.py.shown.length ≤ costD d) → piled (PyData.shownKv ((ks.map keyPy).zip (pyL ds))) ≤ costK ks + costL ds
  | [], _, _, _ => by simp [PyData.shownKv, piled]
  | _ :: _, [], _, _ => by simp [PyData.shownKv, pyL, piled]
  | k :: ks, d :: ds, hk, h => by
    have h1 := h d List.mem_cons_self
    have h2 := piledK (ks := ks) (fun e he => hk e (List.mem_cons_of_mem _ he)) fun e he => h e (List.mem_cons_of_mem d he)
    have h3 := keyShown_le k (hk k List.mem_cons_self)
    have h4 : costK (k :: ks) = costK [k] + costK ks := by cases k <;> simp [costK]
    have h5 : ((": " : String) : Str).length = 2 := by decide
    simp only [pyL, List.map_cons, List.zip_cons_cons, PyData.shownKv, costL, piled_cons]
    rw [strLen_append, strLen_append]
    omega
theorem cost_ok : ∀ {n : Nat} {d : D}, repN n d = true → d.py.shown.length ≤ costD d
  | n, .non, _ => by simp only [D.py, PyData.shown, costD]; decide
  | n, .bl b, _ => by simp only [D.py, PyData.shown, costD]; cases b <;> decide
  | n, .str x, h => by
    have h' : PyData.strOk x = true := by cases n <;> simpa [repN] using h
    exact PySem.StrLaws.reprText_len x (strOk_lt h')
  | n, .int i, h => by
    have h' : sml i = true := by cases n <;> simpa [repN] using h
    have := keyShown_le (.inl i) h'
    simp only [keyPy, costK] at this
    simp only [D.py, costD]
    omega
  | 0, .tup ds, h => by simp [repN] at h
  | n + 1, .tup ds, h => by
    have h' : ∀ d ∈ ds, repN n d = true := by simpa [repN] using h
    have q := piledC fun d hd => cost_ok (h' d hd)
    simp only [D.py, PyData.shown, costD]
    unfold tupleText
    refine Nat.le_trans (brackets_le _ _ _ (by decide) (by split <;> decide)) (by omega)
  | 0, .lst _ ds, h => by simp [repN] at h
  | n + 1, .lst _ ds, h => by
    have h' : ∀ d ∈ ds, repN n d = true := by simpa [repN] using h
    have q := piledC fun d hd => cost_ok (h' d hd)
    simp only [D.py, PyData.shown, costD]
    rw [listText_eq_join]
    exact Nat.le_trans (brackets_le _ _ _ (by decide) (by decide)) (by omega)
  | 0, .dct _ _ ds, h => by simp [repN] at h
  | n + 1, .dct _ ks ds, h => by
    have h' : (∀ k ∈ ks, keySml k = true) ∧ ∀ d ∈ ds, repN n d = true := by simpa [repN] using h
    have q := piledK h'.1 fun d hd => cost_ok (h'.2 d hd)
    simp only [D.py, PyData.shown, costD]
    unfold dictText
    exact Nat.le_trans (brackets_le _ _ _ (by decide) (by decide)) (by omega)
  | 0, .obj _ _ _ _, h => by simp [repN] at h
  | n + 1, .obj _ _ _ _, h => by simp [repN] at h
  | 0, .exn _ _ _, h => by simp [repN] at h
  | n + 1, .exn _ _ _, h => by simp [repN] at h
  | 0, .scr _, h => by simp [repN] at h
  | n + 1, .scr _, h => by simp [repN] at h
  | 0, .tux _, h => by simp [repN] at h
  | n + 1, .tux _, h => by simp [repN] at h
def SysK (K : PySem.W.Frag) : Prop := ∃ o : Obj, K.lookup sysModules = some o ∧ ∀ its n, o.data ≠ .seq its n
theorem SysK.ne {K : PySem.W.Frag} (k : SysK K) {h : Heap} (hk : K.In h) {a : Addr} {o : Obj} {its : Array Value} {n : Nat} (e : h.get? a = some o) (d : o.data = .seq its n) : a ≠ sysModules := fun z => by
  obtain ⟨u, q, hu⟩ := k
  have := hk _ _ q
  rw [z] at e
  rw [e] at this
  cases this
  exact hu _ _ d
section
variable {X : Cx} {pins : List (Addr × Obj)} {σ : Sl} {H P : Hp} {s : Shared}
theorem keys_read {h : Heap} : ∀ {es : List DictEntry} {vs : List (Key × Value)}, Pairs (mixKind X.prog X.w) es vs → ReadsAll h (es.map (·.key)) (vs.map fun p => keyPy p.1) []
  | _, _, .nil => .nil
  | _, _, .cons (e := e) (kv := kv) hk hv t => by
    have r : Reads h e.key (keyPy kv.1) [] := by
      rcases keyIs_shape (k := kv.1) (v := e.key) hk with ⟨i, u, e1, e2⟩ | ⟨x, u, e1, e2⟩
      · rw [e1, e2]; exact .int i u
      · rw [e1, e2]; exact .str x u
    exact .cons (as := []) (bs := []) r (keys_read t)
theorem vals_read : ∀ {es : List DictEntry} {vs : List (Key × Value)}, Pairs (mixKind X.prog X.w) es vs → es.map (·.val) = vs.map (·.2)
  | _, _, .nil => rfl
  | _, _, .cons hk hv t => by rw [List.map_cons, List.map_cons, hv, vals_read t]
theorem kv_split : ∀ {ks : List Key} {xs : List V} {vs : List (Key × Value)}, ks.length = xs.length → KV (ks.zip xs) vs → vs.map (·.1) = ks ∧ Vals xs (vs.map (·.2))
  | [], [], _, _, h => by cases h; exact ⟨rfl, .nil⟩
  | [], _ :: _, _, h, _ => by simp at h
  | _ :: _, [], _, h, _ => by simp at h
  | k :: ks, x :: xs, _, hl, h => by
    cases h with
    | @cons a b l1 l2 r t =>
      obtain ⟨h1, h2⟩ := kv_split (by simpa using hl) t
      refine ⟨?_, .cons r.2 h2⟩
      rw [List.map_cons, h1, ← r.1]
mutual
theorem Rel.reads (sk : SysK X.K) (I : Inv X pins σ H s) (u : Under P H) : ∀ {n : Nat} {v : V} {d : D} {A : List Addr} {w : Value}, Rel (gd X) P H v d A → RelV v w → repN n d = true → ∃ as, Reads s.heap w d.py as ∧ sysModules ∉ as
  | n, _, _, _, _, .non, r, _ => by cases r; exact ⟨_, by rw [D.py]; exact .none, by simp⟩
  | n, _, _, _, _, .bl b, r, _ => by cases r; exact ⟨_, by rw [D.py]; exact .bool b, by simp⟩
  | n, _, _, _, _, .int i, r, _ => by obtain ⟨t, rfl⟩ := r; exact ⟨_, by rw [D.py]; exact .int i t, by simp⟩
  | n, _, _, _, _, .str i, r, _ => by obtain ⟨t, rfl⟩ := r; exact ⟨_, by rw [D.py]; exact .str i t, by simp⟩
  | 0, _, _, _, _, .tup q r, _, h => by simp [repN] at h
  | n + 1, _, _, _, _, .tup q r, e, h => by
    cases e
    obtain ⟨its, rv, ⟨o, ho, hc, m, hd⟩, _⟩ := I.tuple (u.seqT q)
    obtain ⟨as, h1, h2⟩ := RelL.reads sk I u r rv (by simpa [repN] using h)
    exact ⟨as, by rw [D.py]; exact .tuple ho hc hd (by simpa using h1), h2⟩
  | 0, _, _, _, _, .lstF q r, _, h => by simp [repN] at h
  | n + 1, _, _, _, _, .lstF q r, e, h => by
    cases e
    obtain ⟨its, rv, ⟨o, m, ho, hc, _, hd⟩, _⟩ := I.list (u.seqL (SqL.of q))
    obtain ⟨as, h1, h2⟩ := RelL.reads sk I u r rv (by simpa [repN] using h)
    exact ⟨_ :: as, by rw [D.py]; exact .list ho hc hd (by simpa using h1), fun z => (List.mem_cons.mp z).elim (fun e => sk.ne I.kIn ho hd e.symm) h2⟩
  | 0, _, _, _, _, .lstO q r, _, h => by simp [repN] at h
  | n + 1, _, _, _, _, .lstO q r, e, h => by
    cases e
    obtain ⟨its, rv, ⟨o, m, ho, hc, _, hd⟩, _⟩ := I.list (SqL.of (K := X.K) q)
    obtain ⟨as, h1, h2⟩ := RelL.reads sk I u r rv (by simpa [repN] using h)
    exact ⟨_ :: as, by rw [D.py]; exact .list ho hc hd (by simpa using h1), fun z => (List.mem_cons.mp z).elim (fun e => sk.ne I.kIn ho hd e.symm) h2⟩
  | 0, _, _, _, _, .dctF q l r, _, h => by simp [repN] at h
  | n + 1, _, _, _, _, .dctF (a := a) (ks := ks) (vs := xs) (ds := ds) q l r, e, h => by
    cases e
    have h' : ks.all keySml = true ∧ ∀ d ∈ ds, repN n d = true := by simpa [repN] using h
    have hq : Rd H a (.dK (ks.zip xs)) := by
      rcases u _ _ q with z | ⟨ob, _, _, z⟩ | ⟨_, _, z, _⟩
      · exact .inl z
      · exact .inr ⟨ob, z⟩
      · cases z
    obtain ⟨_, lo, vs, kv, o, es, ep, ho, hx, hd, _, hp, _⟩ := dk_rd I.hok hq
    obtain ⟨k1, k2⟩ := kv_split l kv
    obtain ⟨as, h1, h2⟩ := RelL.reads sk I u r k2 h'.2
    have hl : (ks.map keyPy).length = (pyL ds).length := by rw [List.length_map, l, r.length, pyL_eq, List.length_map]
    have q1 : ReadsAll s.heap (es.toList.map (·.key)) (((ks.map keyPy).zip (pyL ds)).map (·.1)) [] := by
      rw [List.map_fst_zip (by omega), ← k1, List.map_map]; exact keys_read hp
    have q2 : ReadsAll s.heap (es.toList.map (·.val)) (((ks.map keyPy).zip (pyL ds)).map (·.2)) as := by
      rw [List.map_snd_zip (by omega), vals_read hp]; exact h1
    refine ⟨[a] ++ as, by rw [D.py]; exact .dict (as := []) ho hx.1 hd q1 q2, ?_⟩
    · simp only [List.append_nil, List.cons_append, List.nil_append, List.mem_cons, not_or]
      exact ⟨fun z => by rw [← z] at lo; simp at lo, h2⟩
  | 0, _, _, _, _, .dctO q l r, _, h => by simp [repN] at h
  | n + 1, _, _, _, _, .dctO (a := a) (ks := ks) (vs := xs) (ds := ds) q l r, e, h => by
    cases e
    have h' : ks.all keySml = true ∧ ∀ d ∈ ds, repN n d = true := by simpa [repN] using h
    obtain ⟨_, lo, vs, kv, o, es, ep, ho, hx, hd, _, hp, _⟩ := dk_rd I.hok (.inl q)
    obtain ⟨k1, k2⟩ := kv_split l kv
    obtain ⟨as, h1, h2⟩ := RelL.reads sk I u r k2 h'.2
    have hl : (ks.map keyPy).length = (pyL ds).length := by rw [List.length_map, l, r.length, pyL_eq, List.length_map]
    have q1 : ReadsAll s.heap (es.toList.map (·.key)) (((ks.map keyPy).zip (pyL ds)).map (·.1)) [] := by
      rw [List.map_fst_zip (by omega), ← k1, List.map_map]; exact keys_read hp
    have q2 : ReadsAll s.heap (es.toList.map (·.val)) (((ks.map keyPy).zip (pyL ds)).map (·.2)) as := by
      rw [List.map_snd_zip (by omega), vals_read hp]; exact h1
    refine ⟨[a] ++ as, by rw [D.py]; exact .dict (as := []) ho hx.1 hd q1 q2, ?_⟩
    · simp only [List.append_nil, List.cons_append, List.nil_append, List.mem_cons, not_or]
      exact ⟨fun z => by rw [← z] at lo; simp at lo, h2⟩
  | n, _, _, _, _, .scr _, _, h => by cases n <;> simp [repN] at h
  | n, _, _, _, _, .tux _ _ _, _, h => by cases n <;> simp [repN] at h
  | n, _, _, _, _, .objF _ _ _ _, _, h => by cases n <;> simp [repN] at h
  | n, _, _, _, _, .objO _ _ _ _, _, h => by cases n <;> simp [repN] at h
  | n, _, _, _, _, .exn _ _ _, _, h => by cases n <;> simp [repN] at h
theorem RelL.reads (sk : SysK X.K) (I : Inv X pins σ H s) (u : Under P H) : ∀ {n : Nat} {vs : List V} {ds : List D} {A : List Addr} {ws : List Value}, RelL (gd X) P H vs ds A → Vals vs ws → (∀ d ∈ ds, repN n d = true) → ∃ as, ReadsAll s.heap ws (pyL ds) as ∧ sysModules ∉ as
  | n, _, _, _, _, .nil, r, _ => by cases r; exact ⟨[], by rw [pyL]; exact .nil, by simp⟩
  | n, _, _, _, _, .cons r t, e, h => by
    cases e with
    | cons e1 e2 =>
      obtain ⟨as, h1, h2⟩ := Rel.reads sk I u r e1 (h _ List.mem_cons_self)
      obtain ⟨bs, h3, h4⟩ := RelL.reads sk I u t e2 fun d hd => h d (List.mem_cons_of_mem _ hd)
      refine ⟨as ++ bs, by rw [pyL]; exact .cons h1 h3, ?_⟩
      simp only [List.mem_append, not_or]
      exact ⟨h2, h4⟩
end
end
def repOk (d : D) : Bool := repN 50 d && decide (costD d ≤ sizeLine)
def fRepr : List D → Option D
  | [d] => if repOk d = true then some (.str d.py.shown) else none
  | _ => none
theorem c_repr {X : Cx} {k : Nat} (hr : GRoom k X.A) (sk : SysK X.K) : CallR X (.builtin "repr") (rC (gd X) fRepr) := by
  intro pins s σ H xs us Q I r ⟨P, ds, B, un, rl, o, h⟩
  cases rl with
  | nil => exact h.elim
  | @cons v d A1 vs ds B1 r1 r2 =>
    cases r2 with
    | cons _ _ => exact h.elim
    | nil =>
      simp only [fRepr] at h
      by_cases c : repOk d = true
      · rw [if_pos c] at h
        simp only [repOk, Bool.and_eq_true, decide_eq_true_eq] at c
        obtain ⟨c1, c3⟩ := c
        obtain ⟨u, rfl, ru⟩ := vals1 r
        obtain ⟨s1, s2⟩ := repN_ok c1
        have hz : d.py.shown.length ≤ sizeLine := Nat.le_trans (cost_ok c1) c3
        have hQ : ∀ h' t tk, (∀ b o, s.heap.get? b = some o → h'.get? b = some o) → EP X pins σ Q (.str d.py.shown t) { s with heap := h', toks := tk } := fun h' t tk hk => ⟨.str _, H, I.kept hk, ⟨t, rfl⟩, post_val un h (.str _)⟩
        have go : ∀ a, u = .ref a → wpAny (model X.prog X.w) X.A (call (.builtin "repr") [u]) (EP X pins σ Q) X.xe s := by
          rintro a rfl
          obtain ⟨as, rd, ns⟩ := Rel.reads sk I un r1 ru c1
          refine repr_of_reads' rd s1 (fun _ => ns) hr.g (by have := hr.r.units; omega) (fun _ _ e => e) hQ hz
        cases r1 with
        | non => cases ru; exact PySem.P.repr_of_none ⟨.str _, H, I.tok _, ⟨_, rfl⟩, by have := post_val un h (.str _); simpa [D.py, PyData.shown] using this⟩
        | bl b => cases ru; exact PySem.P.repr_of_bool ⟨.str _, H, I.tok _, ⟨_, rfl⟩, by have := post_val un h (.str _); cases b <;> simpa [D.py, PyData.shown] using this⟩
        | int i =>
          obtain ⟨t, rfl⟩ := ru
          have hs : i.natAbs.log2 < 1920 := by simpa [D.py, PyData.showable] using s1
          exact PySem.P.repr_of_int hs ⟨.str _, H, I.tok _, ⟨_, rfl⟩, by have := post_val un h (.str _); simpa [D.py, PyData.shown] using this⟩
        | str x =>
          obtain ⟨t, rfl⟩ := ru
          exact PySem.P.repr_of_str ⟨.str _, H, I.tok _, ⟨_, rfl⟩, by have := post_val un h (.str _); simpa [D.py, PyData.shown] using this⟩ (by simpa [D.py, PyData.shown] using hz)
        | _ => exact go _ (by cases ru; rfl)
      · rw [if_neg c] at h; exact h.elim
end RL
namespace RL
open PySem PySem.Spec PyProof.Rows L2
section
variable {X : Cx} {W : WX}
theorem CallR.imp {f : Value} {r r' : List V → Hp → VK → Prop} (h : CallR X f r) (i : ∀ xs H Q, r' xs H Q → r xs H Q) : CallR X f r' := fun pins s σ H xs us Q I rr q => h pins s σ H xs us Q I rr (i _ _ _ q)
theorem MtR.imp {id : String} {r r' : V → List V → Hp → VK → Prop} (h : MtR X id r) (i : ∀ x xs H Q, r' x xs H Q → r x xs H Q) : MtR X id r' := fun pins s σ H x xs v us Q I r1 r2 q => h pins s σ H x xs v us Q I r1 r2 (i _ _ _ _ q)
theorem rC1 {G : Gd} {f : D → Option D} {xs : List V} {H : Hp} {Q : VK} (h : rC G (fun ds => match ds with | [d] => f d | _ => none) xs H Q) :
    ∃ v P d B z, xs = [v] ∧ Under P H ∧ Rel G P H v d B ∧ (∀ b ∈ B, P b = none) ∧ f d = some z ∧ Post G P H Q z := by
  obtain ⟨P, ds, B, un, rl, o, h⟩ := h
  cases rl with
  | nil => exact h.elim
  | @cons v d A1 vs ds B1 r1 r2 =>
    cases r2 with
    | cons _ _ => exact h.elim
    | nil =>
      cases hf : f d with
      | none => simp only [hf] at h
      | some z => simp only [hf] at h; exact ⟨v, P, d, A1, z, rfl, un, r1, fun b hb => o b (List.mem_append_left _ hb), hf, h⟩
theorem rC2 {G : Gd} {f : D → D → Option D} {xs : List V} {H : Hp} {Q : VK} (h : rC G (fun ds => match ds with | [d, e] => f d e | _ => none) xs H Q) :
    ∃ v w P d e B C z, xs = [v, w] ∧ Under P H ∧ Rel G P H v d B ∧ Rel G P H w e C ∧ f d e = some z ∧ Post G P H Q z := by
  obtain ⟨P, ds, B, un, rl, o, h⟩ := h
  cases rl with
  | nil => exact h.elim
  | @cons v d A1 vs ds B1 r1 r2 =>
    cases r2 with
    | nil => exact h.elim
    | @cons w e A2 vs ds B2 r2 r3 =>
      cases r3 with
      | cons _ _ => exact h.elim
      | nil =>
        cases hf : f d e with
        | none => simp only [hf] at h
        | some z => simp only [hf] at h; exact ⟨v, w, P, d, e, A1, A2, z, rfl, un, r1, r2, hf, h⟩
def on1 (f : D → Option D) : List D → Option D := fun ds => match ds with
  | [d] => f d
  | _ => none
def on2 (f : D → D → Option D) : List D → Option D := fun ds => match ds with
  | [d, e] => f d e
  | _ => none
def fLen : D → Option D
  | .lst _ ds => some (.int ds.length)
  | .tup ds => some (.int ds.length)
  | .scr ns => some (.int ns.length)
  | .str z => if z.length ≤ sizeLine then some (.int z.length) else none
  | _ => none
theorem c_len : CallR X (.builtin "len") (rC (gd X) (on1 fLen)) := CallR.imp (CallR.or call_len_seq call_len_str) fun xs H Q h => by
  obtain ⟨v, P, d, B, z, rfl, un, r, o, hf, q⟩ := rC1 h
  cases r with
  | tup q1 r => simp only [fLen, Option.some.injEq] at hf; subst hf; exact .inl ⟨_, _, rfl, .inr (un.seqT q1), by rw [r.length]; exact post_val un q (.int _)⟩
  | lstF q1 r => simp only [fLen, Option.some.injEq] at hf; subst hf; exact .inl ⟨_, _, rfl, .inl (un.seqL (SqL.of q1)), by rw [r.length]; exact post_val un q (.int _)⟩
  | lstO q1 r => simp only [fLen, Option.some.injEq] at hf; subst hf; exact .inl ⟨_, _, rfl, .inl (SqL.of q1), by rw [r.length]; exact post_val un q (.int _)⟩
  | scr q1 => simp only [fLen, Option.some.injEq] at hf; subst hf; exact .inl ⟨_, _, rfl, .inl (un.seqL q1), by rw [List.length_map]; exact post_val un q (.int _)⟩
  | str x =>
    simp only [fLen] at hf
    split at hf
    · rename_i c; cases hf; exact .inr ⟨_, rfl, c, post_val un q (.int _)⟩
    · cases hf
  | _ => simp [fLen] at hf
def fList : D → Option D
  | .lst _ ds => if cleanL ds = true then some (.lst true ds) else none
  | .tup ds => if cleanL ds = true then some (.lst true ds) else none
  | .scr ns => some (.lst true (ns.map .int))
  | _ => none
theorem c_list : CallR X (.type "list") (rC (gd X) (on1 fList)) := CallR.imp call_list_of fun xs H Q h => by
  obtain ⟨v, P, d, B, z, rfl, un, r, o, hf, q⟩ := rC1 h
  cases r with
  | tup q1 r =>
    simp only [fList] at hf
    split at hf
    · rename_i c; cases hf; exact ⟨_, _, rfl, .inr (un.seqT q1), fun p hp => post_lst un q (r.nil_of c) hp⟩
    · cases hf
  | lstF q1 r =>
    simp only [fList] at hf
    split at hf
    · rename_i c; cases hf; exact ⟨_, _, rfl, .inl (un.seqL (SqL.of q1)), fun p hp => post_lst un q (r.nil_of c) hp⟩
    · cases hf
  | lstO q1 r =>
    simp only [fList] at hf
    split at hf
    · rename_i c; cases hf; exact ⟨_, _, rfl, .inl (SqL.of q1), fun p hp => post_lst un q (r.nil_of c) hp⟩
    · cases hf
  | scr q1 => simp only [fList, Option.some.injEq] at hf; subst hf; exact ⟨_, _, rfl, .inl (un.seqL q1), fun p hp => post_lst un q (ints_rel _) hp⟩
  | _ => simp [fList] at hf
def fTuple : D → Option D
  | .lst _ ds => if cleanL ds = true then some (.tup ds) else none
  | .tup ds => if cleanL ds = true then some (.tup ds) else none
  | _ => none
theorem c_tuple : CallR X (.type "tuple") (rC (gd X) (on1 fTuple)) := CallR.imp call_tuple_of fun xs H Q h => by
  obtain ⟨v, P, d, B, z, rfl, un, r, o, hf, q⟩ := rC1 h
  cases r with
  | tup q1 r =>
    simp only [fTuple] at hf
    split at hf
    · rename_i c; cases hf; exact ⟨_, _, rfl, .inr ⟨un.seqT q1, post_val un q (.tup q1 (r.nil_of c))⟩⟩
    · cases hf
  | lstF q1 r =>
    simp only [fTuple] at hf
    split at hf
    · rename_i c; cases hf; exact ⟨_, _, rfl, .inl ⟨un.seqL (SqL.of q1), fun p hp => post_tup un q (r.nil_of c) hp⟩⟩
    · cases hf
  | lstO q1 r =>
    simp only [fTuple] at hf
    split at hf
    · rename_i c; cases hf; exact ⟨_, _, rfl, .inl ⟨SqL.of q1, fun p hp => post_tup un q (r.nil_of c) hp⟩⟩
    · cases hf
  | _ => simp [fTuple] at hf
def fStr : D → Option D
  | .int i => if sml i = true then some (.str (toString i)) else none
  | .str x => some (.str x)
  | _ => none
theorem c_str : CallR X (.type "str") (rC (gd X) (on1 fStr)) := CallR.imp (CallR.or call_str_int SkE.call_str_str) fun xs H Q h => by
  obtain ⟨v, P, d, B, z, rfl, un, r, o, hf, q⟩ := rC1 h
  cases r with
  | int i =>
    simp only [fStr] at hf
    split at hf
    · rename_i c
      cases hf
      simp only [sml, decide_eq_true_eq] at c
      exact .inl ⟨_, rfl, by omega, post_val un q (.str _)⟩
    · cases hf
  | str x => simp only [fStr, Option.some.injEq] at hf; subst hf; exact .inr ⟨_, rfl, post_val un q (.str _)⟩
  | _ => simp [fStr] at hf
def fInt : D → Option D
  | .int i => some (.int i)
  | .bl b => some (.int (if b then 1 else 0))
  | .str x => if x.length ≤ 640 then (PySem.intText? x).map .int else none
  | _ => none
theorem c_int : CallR X (.type "int") (rC (gd X) (on1 fInt)) := CallR.imp (CallR.or call_int1 call_int_str) fun xs H Q h => by
  obtain ⟨v, P, d, B, z, rfl, un, r, o, hf, q⟩ := rC1 h
  cases r with
  | int i => simp only [fInt, Option.some.injEq] at hf; subst hf; exact .inl (.inl ⟨_, rfl, post_val un q (.int _)⟩)
  | bl b => simp only [fInt, Option.some.injEq] at hf; subst hf; exact .inl (.inr ⟨_, rfl, post_val un q (.int _)⟩)
  | str x =>
    simp only [fInt] at hf
    split at hf
    · rename_i c
      cases hi : PySem.intText? x with
      | none => rw [hi] at hf; cases hf
      | some n =>
        rw [hi] at hf
        cases hf
        exact .inr ⟨_, n, rfl, hi, c, post_val un q (.int _)⟩
    · cases hf
  | _ => simp [fInt] at hf
def blsOf : List D → Option (List Bool)
  | [] => some []
  | .bl b :: ds => (blsOf ds).map (b :: ·)
  | _ => none
theorem bls_rel {G : Gd} {P H : Hp} : ∀ {xs : List V} {ds : List D} {A : List Addr} {bs : List Bool}, RelL G P H xs ds A → blsOf ds = some bs → xs = bs.map V.bl
  | _, _, _, bs, .nil, h => by simp only [blsOf, Option.some.injEq] at h; subst h; rfl
  | _, _, _, bs, .cons (d := d) (ds := ds) r t, h => by
    cases r with
    | bl b =>
      simp only [blsOf] at h
      cases hb : blsOf ds with
      | none => rw [hb] at h; cases h
      | some cs => rw [hb] at h; cases h; rw [List.map_cons, bls_rel t hb]
    | _ => simp [blsOf] at h
def fAll : D → Option D
  | .lst _ ds => (blsOf ds).map fun bs => .bl (bs.all id)
  | _ => none
theorem c_all (hc : X.calm = true) : CallR X (.builtin "all") (rC (gd X) (on1 fAll)) := CallR.imp (cr_all hc) fun xs H Q h => by
  obtain ⟨v, P, d, B, z, rfl, un, r, o, hf, q⟩ := rC1 h
  have go : ∀ {a : Addr} {xs : List V} {ds : List D} {A : List Addr}, SqL X.K H a xs → RelL (gd X) P H xs ds A → (blsOf ds).map (fun bs => D.bl (bs.all id)) = some z → rAll X.K [.ref a] H Q := fun {a xs ds A} q1 r hf => by
    cases hb : blsOf ds with
    | none => rw [hb] at hf; cases hf
    | some bs =>
      rw [hb] at hf
      cases hf
      exact ⟨a, bs, rfl, by rw [← bls_rel r hb]; exact q1, post_val un q (.bl _)⟩
  cases r with
  | lstF q1 r => exact go (un.seqL (SqL.of q1)) r hf
  | lstO q1 r => exact go (SqL.of q1) r hf
  | _ => simp [fAll] at hf
def fDivmod : D → D → Option D
  | .int i, .int j => if 0 < j ∧ j < 1073741824 then some (.tup [.int (i / j), .int (i % j)]) else none
  | _, _ => none
theorem c_divmod : CallR X (.builtin "divmod") (rC (gd X) (on2 fDivmod)) := CallR.imp call_divmod fun xs H Q h => by
  obtain ⟨v, w, P, d, e, B, C, z, rfl, un, r, r', hf, q⟩ := rC2 h
  cases r <;> cases r' <;> simp only [fDivmod, reduceCtorEq] at hf
  split at hf
  · rename_i c
    cases hf
    exact ⟨_, _, rfl, c, fun p hp => post_tup un q (.cons (A := []) (B := []) (.int _) (.cons (A := []) (B := []) (.int _) .nil)) hp⟩
  · cases hf
def tyName : D → Option String
  | .non => some "NoneType"
  | .bl _ => some "bool"
  | .int _ => some "int"
  | .str _ => some "str"
  | .tup _ => some "tuple"
  | .lst _ _ => some "list"
  | .dct _ _ _ => some "dict"
  | _ => none
def fIsTy (T : String) : D → Option D := fun d => (tyName d).bind fun t => (kitB t T).map .bl
theorem ty_of {P H : Hp} {v : V} {d : D} {A : List Addr} {t : String} (un : Under P H) (r : Rel (gd X) P H v d A) (h : tyName d = some t) : TyX X.K H v (.type t) := by
  cases r with
  | non => cases h; exact .base .non
  | bl b => cases h; exact .base (.bl b)
  | int b => cases h; exact .base (.int b)
  | str b => cases h; exact .base (.str b)
  | tup q r =>
    cases h
    rcases un.seqT q with (z | ⟨o, z⟩) | ⟨o, its, n, z, c, _⟩
    · exact .base (.tup z)
    · exact .fTuple z
    · exact .kTuple z c
  | lstF q r =>
    cases h
    rcases un _ _ q with z | ⟨_, _, z, _⟩ | ⟨_, _, z, _⟩
    · exact .base (.lst z)
    · cases z
    · cases z
  | lstO q r => cases h; exact .base (.lst q)
  | dctF q l r =>
    cases h
    rcases un _ _ q with z | ⟨ob, kvs, e, z⟩ | ⟨_, _, z, _⟩
    · exact .base (.dK z)
    · exact .fDict z
    · cases z
  | dctO q l r => cases h; exact .base (.dK q)
  | _ => simp [tyName] at h
theorem e_isTy (T : String) {x : Str} {p p2 pos : Pos} {e : Expr} {S : Env → Res D} (hm : X.mg "isinstance" = none) (hm2 : X.mg x = none) (hv : bootBuiltins x = some (.type T)) (he : BOk X W e S) (hg : Gl X "isinstance" := by rfl) (hg2 : Gl X x := by rfl)
    (hn : x ≠ "__name__" := by decide) (hdb : (x == ("__debug__" : Str)) = false := by decide)
    (hs : starEach [e, .Name x p2] X.env = (false, eval e X.env) :: starEach [.Name x p2] X.env := by rfl) (hpl : (backTo pos (starEach [.Name x p2] X.env)).any (·.1) = false := by rfl) :
    EOk X W (.Call (.Name "isinstance" p) [e, .Name x p2] [] pos) (s1 (fIsTy T) S) :=
  ⟨PE.imp (pe_callB call_isi hg hm (by decide +kernel) (pa_cons he.pe (pa_cons (pe_bltn (v := .ty T) hg2 hm2 hv rfl hn hdb) pa_nil) hs) (by decide) (by decide) hs hpl) fun σ H Q ⟨P, ρ, A, st, h⟩ => ⟨P, ρ, A, st, by
    unfold s1 at h
    cases hsS : S ρ with
    | bad => simp only [hsS, Res.bind] at h
    | exc x => simp only [hsS, Res.bind] at h; exact h
    | ok d =>
      simp only [hsS, Res.bind] at h
      intro v P1 H1 B e1 r o
      cases ht : tyName d with
      | none => simp only [fIsTy, ht, Option.bind, opt] at h
      | some t =>
        cases hk : kitB t T with
        | none => simp only [fIsTy, ht, hk, Option.bind, Option.map, opt] at h
        | some b =>
          simp only [fIsTy, ht, hk, Option.bind, Option.map, opt] at h
          exact ⟨v, .ty T, .type t, .type T, b, rfl, .ty T, ty_of e1.und r ht, kit_ty hk, h _ P1 H1 [] e1 (.bl b) Fresh.nil⟩⟩⟩
inductive JOk (X : Cx) (W : WX) : List Expr → List (Env → Res D) → Prop
  | nil : JOk X W [] []
  | cons {e : Expr} {S : Env → Res D} {es : List Expr} {Ss : List (Env → Res D)} : EOk X W e S → JOk X W es Ss → JOk X W (e :: es) (S :: Ss)
theorem JOk.pj : ∀ {es : List Expr} {Ss : List (Env → Res D)}, JOk X W es Ss → PJ X es (Ss.map (tE (gd X) W))
  | _, _, .nil => .nil
  | _, _, .cons h t => .cons h.pe t.pj
def jRun : List (Env → Res D) → Str → Env → Res D
  | [], acc, _ => .ok (.str acc)
  | S :: Ss, acc, ρ => (S ρ).bind fun d => match d with
    | .str y => if (acc ++ y).length ≤ sizeLine then jRun Ss (acc ++ y) ρ else .bad
    | _ => .bad
end
end RL
namespace RL
open PySem PySem.Spec PyProof.Rows L2
structure DefOk (P : Program) (w : World) (K : PySem.W.Frag) (mg : Str → Option Value) (base : Heap) (x : Str) (k : Nat) (ps : List Str) (φ : List D → FR) : Prop where
  ex : ∃ f fd, FnG P w K mg base k f fd ps (spF ⟨K, mg⟩ ps.length [] φ) ∧ mg x = some (.ref f) ∧ PySem.W.keepIn K (.ref f) = true ∧ Binds K fd ps []
section
variable {P : Program} {w : World} {K : PySem.W.Frag} {mg : Str → Option Value} {base : Heap}
theorem fun_of {x qual : Str} {st : Stmt} {f : Addr} {fd : FuncData} (h : FunD K x qual (defArgs st) (defBody st) (defScope st) [] [] f fd) : Fun K x qual st f fd := by
  obtain ⟨oc, od, dV, kV, doc, pm, an, cdv, ct, osl, e, l, c, dv, _⟩ := h.ex
  have e0 : dV = .none := by
    rcases dv with ⟨_, q⟩ | ⟨q, _⟩
    · exact q
    · exact absurd rfl q
  subst e0
  exact ⟨⟨oc, od, kV, doc, pm, an, cdv, ct, osl, e, l, c⟩, h.kp⟩
theorem DefOk.mk' {x qual : Str} {st : Stmt} {f : Addr} {fd : FuncData} {k : Nat} {ps : List Str} {φ : List D → FR} (F : Fun K x qual st f fd) (g : mg x = some (.ref f)) (h : FnG P w K mg base k f fd ps (spF ⟨K, mg⟩ ps.length [] φ))
    (b : ∀ (kV doc pm : Value) (an : Option Addr) (cdv ct : Value) (us : List Value), us.length = ps.length → bindArgs (PySem.W.fnOf x qual (defArgs st) (defBody st) (defScope st) .none kV doc pm an cdv ct) ⟨us, []⟩ = pure (ps.zip us)) : DefOk P w K mg base x k ps φ :=
  ⟨f, fd, h, g, F.kp, F.binds b⟩
end
section
variable {X : Cx} {W : WX} {j k : Nat} {ps : List Str} {x : Str} {φ : List D → FR} {p pos : Pos} {e : Expr} {es : List Expr}
theorem e_fn {S : Env → Res (List D)} (F : DefOk X.prog X.w X.K X.mg X.base x j ps φ) (hr : GRoom k X.A) (tk : Takes X W) (ha : AOk X W (e :: es) S) (hj : j ≤ k := by decide) (hg : Gl X x := by rfl) (hdb : (x == ("__debug__" : Str)) = false := by decide)
    (he : starEach (e :: es) X.env = (false, eval e X.env) :: starEach es X.env := by rfl) (hpl : (backTo pos (starEach es X.env)).any (·.1) = false := by rfl) : EOk X W (.Call (.Name x p) (e :: es) [] pos) (sCallF ps.length φ S) := by
  obtain ⟨f, fd, h, g, kp, b⟩ := F.ex
  exact e_call h (hr.mono hj) g kp b tk ha hg hdb he hpl
def fNeg : D → Option D
  | .int i => some (.int (-i))
  | _ => none
theorem e_neg {a : Expr} {S : Env → Res D} (ha : BOk X W a S) : EOk X W (.UnaryOp .USub a pos) (s1 fNeg S) := ⟨PE.imp (pe_un un_neg ha.pe) fun σ H Q ⟨P, ρ, A, st, h⟩ => ⟨P, ρ, A, st, by
  unfold s1 at h
  cases hs : S ρ with
  | bad => simp only [hs, Res.bind] at h
  | exc x => simp only [hs, Res.bind] at h; exact h
  | ok d =>
    simp only [hs, Res.bind] at h
    intro v P1 H1 B e1 r o
    cases r with
    | int i => simp only [fNeg, opt] at h; exact ⟨i, rfl, h _ P1 H1 [] e1 (.int _) Fresh.nil⟩
    | _ => simp [fNeg, opt] at h⟩⟩
theorem e_globI {i : Int} (hm : ∃ t, X.mg x = some (.int i t)) (hg : Gl X x := by rfl) (hd : (x == ("__debug__" : Str)) = false := by decide) : EOk X W (.Name x p) (sC (.int i)) := by
  obtain ⟨t, h⟩ := hm
  exact e_val (pe_glob (v := .int i) hg h ⟨t, rfl⟩ hd) fun _ _ => .int i
theorem e_globS {i : Str} (hm : ∃ t, X.mg x = some (.str i t)) (hg : Gl X x := by rfl) (hd : (x == ("__debug__" : Str)) = false := by decide) : EOk X W (.Name x p) (sC (.str i)) := by
  obtain ⟨t, h⟩ := hm
  exact e_val (pe_glob (v := .str i) hg h ⟨t, rfl⟩ hd) fun _ _ => .str i
def sChain (f g : D → D → Option D) (Sa Sb Sc : Env → Res D) : Env → Res D := fun ρ => (Sa ρ).bind fun x => (Sb ρ).bind fun y => (opt (f x y)).bind fun z => (asB z).bind fun k => if k = true then (Sc ρ).bind fun u => opt (g y u) else .ok (.bl false)
theorem chain_imp {f g : D → D → Option D} {Sa Sb Sc : Env → Res D} {r r' : R2} (hf : ∀ x y H Q, rD (gd X) f x y H Q → r x y H Q) (hg : ∀ x y H Q, rD (gd X) g x y H Q → r' x y H Q) {σ : Sl} {H : Hp} {Q : VK} (h : tE (gd X) W (sChain f g Sa Sb Sc) σ H Q) :
    tChain r r' (tBo (gd X) W Sa) (tBo (gd X) W Sb) (tBo (gd X) W Sc) σ H Q := by
  obtain ⟨P, ρ, A, st, h⟩ := h
  refine ⟨P, ρ, A, st, ?_⟩
  unfold sChain at h
  cases ha : Sa ρ with
  | bad => simp only [ha, Res.bind] at h
  | exc x => simp only [ha, Res.bind] at h; exact h
  | ok dx =>
    simp only [ha, Res.bind] at h
    intro v P1 H1 B1 e1 r1 o1
    refine ⟨P1, ρ, A, st.ext e1, ?_⟩
    cases hb : Sb ρ with
    | bad => simp only [hb] at h
    | exc x => simp only [hb] at h; exact PostX.ext h st.und e1
    | ok dy =>
      simp only [hb] at h
      intro v2 P2 H2 B2 e2 r2 o2
      cases hz : f dx dy with
      | none => simp only [hz, opt] at h
      | some dz =>
        simp only [hz, opt] at h
        refine hf _ _ _ _ ⟨P2, dx, dy, B1, B2, e2.und, r1.ext e2 o1, r2, (e2.own r1.at o1).2, o2, ?_⟩
        rw [hz]
        intro v3 P3 H3 B3 e3 r3 f3
        have e13 := (e1.trans st.und e2).trans st.und e3
        cases dz with
        | bl k =>
          cases r3
          refine ⟨k, rfl, ?_⟩
          cases k with
          | false =>
            simp only [asB, Bool.false_eq_true, if_false] at h ⊢
            exact h _ P3 H3 [] e13 (.bl false) Fresh.nil
          | true =>
            simp only [asB, if_true] at h ⊢
            refine ⟨P3, ρ, A, st.ext e13, ?_⟩
            cases hc : Sc ρ with
            | bad => simp only [hc] at h
            | exc x => simp only [hc] at h; exact PostX.ext h st.und e13
            | ok du =>
              simp only [hc] at h
              intro v4 P4 H4 B4 e4 r4 o4
              have r2' := (r2.ext e3 o2).ext e4 (e3.own r2.at o2).2
              refine hg _ _ _ _ ⟨P4, dy, du, B2, B4, e4.und, r2', r4, (e4.own (r2.ext e3 o2).at (e3.own r2.at o2).2).2, o4, ?_⟩
              cases hw : g dy du with
              | none => simp only [hw, opt] at h
              | some d => simp only [hw, opt] at h; exact Post.ext h st.und (e13.trans st.und e4)
        | _ => simp [asB] at h
theorem e_chain {a b c : Expr} {op op' : CmpOp} {f g : D → D → Option D} {Sa Sb Sc : Env → Res D} (ho : OpR X (compareOp op) (rD (gd X) f)) (ho' : OpR X (compareOp op') (rD (gd X) g)) (ha : BOk X W a Sa) (hb : BOk X W b Sb) (hc : BOk X W c Sc)
    (hm : lastMarks [op, op'] [b, c] = false := by with_unfolding_all rfl) : EOk X W (.Compare a [op, op'] [b, c] pos) (sChain f g Sa Sb Sc) :=
  ⟨PE.imp (pe_chain ho ho' ha.pe hb.pe hc.pe hm) fun _ _ _ => chain_imp (fun _ _ _ _ h => h) fun _ _ _ _ h => h⟩
theorem t_chain {a b c : Expr} {op op' : CmpOp} {f g : D → D → Option D} {Sa Sb Sc : Env → Res D} (ho : OpR X (compareOp op) (rD (gd X) f)) (ho' : OpR X (compareOp op') (rD (gd X) g)) (ha : BOk X W a Sa) (hb : BOk X W b Sb) (hc : BOk X W c Sc)
    (hm : lastMarks [op, op'] [b, c] = false := by with_unfolding_all rfl) : TOk X W (.Compare a [op, op'] [b, c] pos) (sTest (sChain f g Sa Sb Sc)) :=
  ⟨PT.imp (pt_chain ho ho' ha.pe hb.pe hc.pe hm) fun _ _ _ h => chain_imp (fun _ _ _ _ h => h) (fun _ _ _ _ h => h) (test_of h)⟩
end
end RL
namespace RL
open PySem PySem.Spec PyProof.Rows L2
section
variable {α β : Type}
@[simp] theorem bind_ok {a : α} {f : α → Res β} : (Res.ok a).bind f = f a := rfl
@[simp] theorem bind_exc {x : D} {f : α → Res β} : (Res.exc x : Res α).bind f = .exc x := rfl
@[simp] theorem bind_bad {f : α → Res β} : (Res.bad : Res α).bind f = .bad := rfl
@[simp] theorem opt_some {a : α} : opt (some a) = .ok a := rfl
@[simp] theorem asB_bl {b : Bool} : asB (.bl b) = .ok b := rfl
@[simp] theorem asI_int {i : Int} : asI (.int i) = .ok i := rfl
@[simp] theorem on1_ap {f : D → Option D} {d : D} : on1 f [d] = f d := rfl
@[simp] theorem on2_ap {f : D → D → Option D} {d e : D} : on2 f [d, e] = f d e := rfl
end
section
variable {ρ : Env}
@[simp] theorem sVarB_ap {i : Nat} {d : D} (h : ρ[i]? = some (some d)) : sVarB i ρ = .ok d := by simp [sVarB, h]
@[simp] theorem sCl_ap {S : Env → Res D} : sCl S ρ = (S ρ).bind fun d => if d.clean = true then .ok d else .bad := rfl
@[simp] theorem sVar_ap {i : Nat} {d : D} (h : ρ[i]? = some (some d)) : sVar i ρ = if d.clean = true then .ok d else .bad := by simp [sVar, h]
@[simp] theorem sC_ap {d : D} : sC d ρ = .ok d := rfl
@[simp] theorem s2_ap {f : D → D → Option D} {Sa Sb : Env → Res D} : s2 f Sa Sb ρ = (Sa ρ).bind fun x => (Sb ρ).bind fun y => opt (f x y) := rfl
@[simp] theorem s1_ap {f : D → Option D} {S : Env → Res D} : s1 f S ρ = (S ρ).bind fun d => opt (f d) := rfl
@[simp] theorem sTest_ap {S : Env → Res D} : sTest S ρ = (S ρ).bind asB := rfl
@[simp] theorem sNot_ap {S : Env → Res Bool} : sNot S ρ = (S ρ).bind fun b => .ok (!b) := rfl
@[simp] theorem sAndT_ap {S T : Env → Res Bool} : sAndT S T ρ = (S ρ).bind fun b => if b = true then T ρ else .ok false := rfl
@[simp] theorem sOrT_ap {S T : Env → Res Bool} : sOrT S T ρ = (S ρ).bind fun b => if b = true then .ok true else T ρ := rfl
@[simp] theorem sIf_ap {C : Env → Res Bool} {Sa Sb : Env → Res D} : sIf C Sa Sb ρ = (C ρ).bind fun k => if k = true then Sa ρ else Sb ρ := rfl
@[simp] theorem sB_ap {S : Env → Res Bool} : sB S ρ = (S ρ).bind fun b => .ok (.bl b) := rfl
@[simp] theorem sNotV_ap {S : Env → Res D} : sNotV S ρ = sB (sNot (sTest S)) ρ := rfl
@[simp] theorem sAnd_ap {Sa Sb : Env → Res D} : sAnd Sa Sb ρ = (Sa ρ).bind fun x => (asB x).bind fun k => if k = true then Sb ρ else .ok (.bl false) := rfl
@[simp] theorem sOr_ap {Sa Sb : Env → Res D} : sOr Sa Sb ρ = (Sa ρ).bind fun x => (asB x).bind fun k => if k = true then .ok (.bl true) else Sb ρ := rfl
@[simp] theorem sNil_ap : sNil ρ = .ok [] := rfl
@[simp] theorem sCons_ap {S : Env → Res D} {T : Env → Res (List D)} : sCons S T ρ = (S ρ).bind fun d => (T ρ).bind fun ds => .ok (d :: ds) := rfl
@[simp] theorem sIx_ap {Sa Sb : Env → Res D} : sIx Sa Sb ρ = (Sa ρ).bind fun x => (Sb ρ).bind fun y => opt (opIx x y) := rfl
@[simp] theorem sPn_ap : sPn ρ = .ok none := rfl
@[simp] theorem sPs_ap {S : Env → Res D} : sPs S ρ = (S ρ).bind fun d => (asI d).bind fun i => .ok (some i) := rfl
@[simp] theorem sSl_ap {S : Env → Res D} {L U : Env → Res (Option Int)} : sSl S L U ρ = (S ρ).bind fun d => (L ρ).bind fun lo => (U ρ).bind fun hi => opt (opSl d lo hi) := rfl
@[simp] theorem sTup_ap {S : Env → Res (List D)} : sTup S ρ = (S ρ).bind fun ds => if ds.length ≤ sizeLine then .ok (.tup ds) else .bad := rfl
@[simp] theorem sLst_ap {S : Env → Res (List D)} : sLst S ρ = (S ρ).bind fun ds => if ds.length ≤ sizeLine then .ok (.lst true ds) else .bad := rfl
@[simp] theorem sCall_ap {f : List D → Option D} {S : Env → Res (List D)} : sCall f S ρ = (S ρ).bind fun ds => opt (f ds) := rfl
@[simp] theorem sSeq_ap {S : Env → Res D} : sSeq S ρ = (S ρ).bind fun d => opt (seqD d) := rfl
@[simp] theorem sI_ap {f : List D → Option (List D)} {S : Env → Res (List D)} : sI f S ρ = (S ρ).bind fun ds => opt (f ds) := rfl
@[simp] theorem sYes_ap : sYes ρ = .ok true := rfl
@[simp] theorem jRun_nil {acc : Str} : jRun [] acc ρ = .ok (.str acc) := rfl
@[simp] theorem jRun_cons {S : Env → Res D} {Ss : List (Env → Res D)} {acc : Str} : jRun (S :: Ss) acc ρ = (S ρ).bind fun d => match d with
    | .str y => if (acc ++ y).length ≤ sizeLine then jRun Ss (acc ++ y) ρ else .bad
    | _ => .bad := rfl
@[simp] theorem sChain_ap {f g : D → D → Option D} {Sa Sb Sc : Env → Res D} : sChain f g Sa Sb Sc ρ = (Sa ρ).bind fun x => (Sb ρ).bind fun y => (opt (f x y)).bind fun z => (asB z).bind fun k => if k = true then (Sc ρ).bind fun u => opt (g y u) else .ok (.bl false) := rfl
def FR.res : FR → Res D
  | .ok d _ => .ok d
  | .exc x _ => .exc x
  | .bad => .bad
@[simp] theorem res_ok {d : D} {os : List D} : (FR.ok d os).res = .ok d := rfl
@[simp] theorem res_exc {d : D} {os : List D} : (FR.exc d os).res = .exc d := rfl
@[simp] theorem sCallF_ap {n : Nat} {φ : List D → FR} {S : Env → Res (List D)} : sCallF n φ S ρ = (S ρ).bind fun ds => if ds.length = n then (φ (frzL ds)).res else .bad := by
  unfold sCallF
  cases S ρ with
  | ok ds => simp only [bind_ok]; split <;> first | rfl | (cases φ (frzL ds) <;> rfl)
  | _ => rfl
@[simp] theorem sNext_ap : sNext ρ = .nx ρ := rfl
@[simp] theorem sBreak_ap : sBreak ρ = .bk ρ := rfl
@[simp] theorem sRetN_ap : sRetN ρ = .rt .non ρ := rfl
def SRes.andThen (r : SRes) (T : Env → SRes) : SRes := match r with
  | .nx ρ' => T ρ'
  | .rt d ρ' => .rt d ρ'
  | .bk ρ' => .bk ρ'
  | .exc x ρ' => .exc x ρ'
  | .bad => .bad
@[simp] theorem andThen_nx {T : Env → SRes} : (SRes.nx ρ).andThen T = T ρ := rfl
@[simp] theorem andThen_rt {T : Env → SRes} {d : D} : (SRes.rt d ρ).andThen T = .rt d ρ := rfl
@[simp] theorem andThen_bk {T : Env → SRes} : (SRes.bk ρ).andThen T = .bk ρ := rfl
@[simp] theorem andThen_exc {T : Env → SRes} {d : D} : (SRes.exc d ρ).andThen T = .exc d ρ := rfl
@[simp] theorem sThen_ap {S T : Env → SRes} : sThen S T ρ = (S ρ).andThen T := by
  unfold sThen SRes.andThen
  cases S ρ <;> rfl
def Res.stm {α : Type} (r : Res α) (ρ : Env) (k : α → SRes) : SRes := match r with
  | .ok a => k a
  | .exc x => .exc x ρ
  | .bad => .bad
@[simp] theorem stm_ok {α : Type} {a : α} {k : α → SRes} : (Res.ok a).stm ρ k = k a := rfl
@[simp] theorem stm_exc {α : Type} {x : D} {k : α → SRes} : (Res.exc x : Res α).stm ρ k = .exc x ρ := rfl
def put (o : Option Env) : SRes := match o with
  | some ρ' => .nx ρ'
  | none => .bad
@[simp] theorem put_some {ρ : Env} : put (some ρ) = .nx ρ := rfl
@[simp] theorem sAsg_ap {t : Tg} {f : Bool} {S : Env → Res D} : sAsg t f S ρ = (S ρ).stm ρ fun d => put (t.set (if f then d.frz else d) ρ) := by
  unfold sAsg Res.stm put
  cases S ρ <;> rfl
@[simp] theorem sPar_ap {i j : Nat} {S : Env → Res (List D)} {d e : D} (h : S ρ = .ok [d, e]) : sPar i j S ρ = put ((Tg.tp [.nm i, .nm j]).set (.tup [d, e]) ρ) := by
  unfold sPar put
  simp only [h]
  all_goals (split <;> rename_i e <;> rw [e])
@[simp] theorem sRet_ap {S : Env → Res D} : sRet S ρ = (S ρ).stm ρ fun d => .rt d ρ := by
  unfold sRet Res.stm
  cases S ρ <;> rfl
@[simp] theorem sExpr_ap {S : Env → Res D} : sExpr S ρ = (S ρ).stm ρ fun _ => .nx ρ := by
  unfold sExpr Res.stm
  cases S ρ <;> rfl
@[simp] theorem sRetV_ap {i : Nat} {d : D} (h : ρ[i]? = some (some d)) : sRetV i ρ = .rt d (ρ.set i none) := by simp [sRetV, h]
@[simp] theorem sFrz_ap {i : Nat} {S : Env → SRes} {d : D} (h : ρ[i]? = some (some d)) : sFrz i S ρ = S (ρ.set i (some d.frz)) := by simp [sFrz, h]
@[simp] theorem sIfS_ap {C : Env → Res Bool} {S T : Env → SRes} : sIfS C S T ρ = (C ρ).stm ρ fun b => if b = true then S ρ else T ρ := by
  unfold sIfS Res.stm
  cases C ρ with
  | ok b => cases b <;> rfl
  | _ => rfl
@[simp] theorem sFor_ap {Si : Env → Res (List D)} {t : Tg} {S : Env → SRes} : sFor Si t S ρ = (Si ρ).stm ρ fun ds => forRun t S ds ρ := by
  unfold sFor Res.stm
  cases Si ρ <;> rfl
def endF (L : List Nat) : SRes → FR
  | .nx ρ => (match outsOf L ρ with | some os => .ok .non os | none => .bad)
  | .rt d ρ => (match outsOf L ρ with | some os => .ok d os | none => .bad)
  | .exc x ρ => (match outsOf L ρ with | some os => .exc x os | none => .bad)
  | _ => .bad
theorem runDef_ap {n : Nat} {L : List Nat} {S : Env → SRes} {ds : List D} : runDef n L S ds = endF L (S (entry n ds)) := by
  unfold runDef endF
  cases S (entry n ds) <;> rfl
@[simp] theorem endF_rt0 {d : D} {ρ : Env} : endF [] (.rt d ρ) = .ok d [] := rfl
@[simp] theorem endF_nx0 {ρ : Env} : endF [] (.nx ρ) = .ok .non [] := rfl
@[simp] theorem endF_ex0 {d : D} {ρ : Env} : endF [] (.exc d ρ) = .exc d [] := rfl
@[simp] theorem tg_nm {i : Nat} {d : D} (h : i < ρ.length) : (Tg.nm i).set d ρ = some (ρ.set i (some d)) := by simp [Tg.set, h]
@[simp] theorem tg_tpL {ts : List Tg} {o : Bool} {ds : List D} : (Tg.tp ts).set (.lst o ds) ρ = tgSetL ts ds ρ := by simp [Tg.set]
@[simp] theorem tg_tp {ts : List Tg} {ds : List D} : (Tg.tp ts).set (.tup ds) ρ = tgSetL ts ds ρ := by simp [Tg.set]
@[simp] theorem tgL_nil : tgSetL [] [] ρ = some ρ := by simp [tgSetL]
@[simp] theorem tgL_cons {t : Tg} {ts : List Tg} {d : D} {ds : List D} : tgSetL (t :: ts) (d :: ds) ρ = (t.set d ρ).bind (tgSetL ts ds) := by simp [tgSetL]
@[simp] theorem forRun_nil {t : Tg} {S : Env → SRes} : forRun t S [] ρ = .nx ρ := rfl
def loopK (r : SRes) (k : Env → SRes) : SRes := match r with
  | .nx ρ => k ρ
  | .bk ρ => .nx ρ
  | .rt d ρ => .rt d ρ
  | .exc x ρ => .exc x ρ
  | .bad => .bad
@[simp] theorem loopK_nx {k : Env → SRes} : loopK (.nx ρ) k = k ρ := rfl
@[simp] theorem loopK_bk {k : Env → SRes} : loopK (.bk ρ) k = .nx ρ := rfl
@[simp] theorem loopK_rt {k : Env → SRes} {d : D} : loopK (.rt d ρ) k = .rt d ρ := rfl
theorem forRun_cons {t : Tg} {S : Env → SRes} {d : D} {ds : List D} : forRun t S (d :: ds) ρ = (put (t.set d ρ)).andThen fun ρ1 => loopK (S ρ1) (forRun t S ds) := by
  rw [forRun]
  cases t.set d ρ with
  | none => rfl
  | some ρ1 =>
    simp only [put_some, SRes.andThen, loopK]
    cases S ρ1 <;> rfl
end
def Bd (k : Nat) (x : Int) : Prop := x.natAbs < 2 ^ k
theorem Bd.mono {j k : Nat} {x : Int} (h : Bd j x) (q : j ≤ k) : Bd k x := Nat.lt_of_lt_of_le h (Nat.pow_le_pow_right (by decide) q)
theorem Bd.add {k : Nat} {x y : Int} (h : Bd k x) (q : Bd k y) : Bd (k + 1) (x + y) := by
  unfold Bd at *
  have := Int.natAbs_add_le x y
  rw [Nat.pow_succ]
  omega
theorem Bd.neg {k : Nat} {x : Int} (h : Bd k x) : Bd k (-x) := by
  unfold Bd at *
  rwa [Int.natAbs_neg]
theorem Bd.sub {k : Nat} {x y : Int} (h : Bd k x) (q : Bd k y) : Bd (k + 1) (x - y) := by
  rw [Int.sub_eq_add_neg]
  exact h.add q.neg
theorem Bd.sml {k : Nat} {x : Int} (h : Bd k x) (q : k ≤ 1900) : sml x = true := by
  have h' := h.mono q
  unfold Bd at h'
  unfold RL.sml
  rw [decide_eq_true_eq]
  by_cases e : x.natAbs = 0
  · rw [e]; decide
  · exact (Nat.log2_lt e).mpr h'
theorem Bd.mulOk {j k : Nat} {x y : Int} (h : Bd j x) (q : Bd k y) (hj : j ≤ 1900) (hk : k ≤ 1900) : mulOk x y = true := by
  unfold RL.mulOk
  rw [h.sml hj, q.sml hk]
  simp
@[simp] theorem opAdd_i {i j : Int} : opAdd (.int i) (.int j) = some (.int (i + j)) := rfl
@[simp] theorem opSub_i {i j : Int} : opSub (.int i) (.int j) = some (.int (i - j)) := rfl
@[simp] theorem opLt_i {i j : Int} : opLt (.int i) (.int j) = some (.bl (decide (i < j))) := rfl
@[simp] theorem opLe_i {i j : Int} : opLe (.int i) (.int j) = some (.bl (decide (i ≤ j))) := rfl
@[simp] theorem opGt_i {i j : Int} : opGt (.int i) (.int j) = some (.bl (decide (j < i))) := rfl
@[simp] theorem opGe_i {i j : Int} : opGe (.int i) (.int j) = some (.bl (decide (j ≤ i))) := rfl
@[simp] theorem fNeg_i {i : Int} : fNeg (.int i) = some (.int (-i)) := rfl
theorem opMul_i {i j : Int} (h : mulOk i j = true) : opMul (.int i) (.int j) = some (.int (i * j)) := by simp [opMul, h]
theorem opFdiv_i {i j : Int} (h : j ≠ 0) (q : sml j = true) : opFdiv (.int i) (.int j) = some (.int (i.fdiv j)) := by simp [opFdiv, h, q]
theorem opMod_i {i j : Int} (h : j ≠ 0) : opMod (.int i) (.int j) = some (.int (i.fmod j)) := by simp [opMod, h]
@[simp] theorem clean_i {i : Int} : (D.int i).clean = true := rfl
@[simp] theorem clean_s {i : Str} : (D.str i).clean = true := rfl
@[simp] theorem clean_b {i : Bool} : (D.bl i).clean = true := rfl
@[simp] theorem clean_n : D.non.clean = true := rfl
@[simp] theorem clean_t {ds : List D} : (D.tup ds).clean = cleanL ds := by simp [D.clean]
@[simp] theorem clean_nil : cleanL [] = true := by simp [cleanL]
@[simp] theorem clean_cons {d : D} {ds : List D} : cleanL (d :: ds) = (d.clean && cleanL ds) := by simp [cleanL]
@[simp] theorem clean_l {ds : List D} : (D.lst false ds).clean = cleanL ds := by simp [D.clean]
@[simp] theorem clean_d {ks : List Key} {ds : List D} : (D.dct false ks ds).clean = cleanL ds := by simp [D.clean]
@[simp] theorem clean_scr {ns : List Int} : (D.scr ns).clean = true := rfl
theorem cleanL_all : ∀ {ds : List D}, cleanL ds = true ↔ ∀ d ∈ ds, d.clean = true
  | [] => by simp
  | d :: ds => by simp [cleanL, cleanL_all (ds := ds)]
@[simp] theorem cleanL_app {ds es : List D} : cleanL (ds ++ es) = (cleanL ds && cleanL es) := by
  induction ds with
  | nil => simp
  | cons d ds ih => simp [cleanL, ih, Bool.and_assoc]
@[simp] theorem cleanL_ints {ns : List Int} : cleanL (ns.map .int) = true := cleanL_all.mpr fun d hd => by
  obtain ⟨i, _, rfl⟩ := List.mem_map.mp hd
  rfl
@[simp] theorem frzL_ints : ∀ {ns : List Int}, frzL (ns.map .int) = ns.map .int
  | [] => by simp [frzL]
  | n :: ns => by simp [frzL, D.frz, frzL_ints (ns := ns)]
@[simp] theorem seqD_l {o : Bool} {ds : List D} (h : cleanL ds = true) : seqD (.lst o ds) = some ds := by simp [seqD, h]
@[simp] theorem seqD_t {ds : List D} (h : cleanL ds = true) : seqD (.tup ds) = some ds := by simp [seqD, h]
@[simp] theorem seqD_scr {ns : List Int} : seqD (.scr ns) = some (ns.map .int) := rfl
@[simp] theorem lstD_l {o : Bool} {ds : List D} (h : cleanL ds = true) : lstD (.lst o ds) = some ds := by simp [lstD, h]
@[simp] theorem lstD_scr {ns : List Int} : lstD (.scr ns) = some (ns.map .int) := rfl
@[simp] theorem fLen_l {o : Bool} {ds : List D} : fLen (.lst o ds) = some (.int ds.length) := rfl
@[simp] theorem fLen_t {ds : List D} : fLen (.tup ds) = some (.int ds.length) := rfl
@[simp] theorem fLen_scr {ns : List Int} : fLen (.scr ns) = some (.int ns.length) := rfl
@[simp] theorem frz_i {i : Int} : (D.int i).frz = .int i := rfl
@[simp] theorem frz_s {i : Str} : (D.str i).frz = .str i := rfl
@[simp] theorem frz_b {i : Bool} : (D.bl i).frz = .bl i := rfl
@[simp] theorem frz_n : D.non.frz = .non := rfl
@[simp] theorem frz_scr {ns : List Int} : (D.scr ns).frz = .scr ns := rfl
@[simp] theorem frz_t {ds : List D} : (D.tup ds).frz = .tup (frzL ds) := by simp [D.frz]
@[simp] theorem frz_l {o : Bool} {ds : List D} : (D.lst o ds).frz = .lst false (frzL ds) := by simp [D.frz]
@[simp] theorem frzL_nil : frzL [] = [] := by simp [frzL]
@[simp] theorem frzL_cons {d : D} {ds : List D} : frzL (d :: ds) = d.frz :: frzL ds := by simp [frzL]
theorem mulOk_l {i j : Int} (h : -(2 ^ 64) < i) (h' : i < 2 ^ 64) : mulOk i j = true := by
  unfold RL.mulOk
  rw [decide_eq_true (p := -(2 ^ 64) < i ∧ i < 2 ^ 64) ⟨h, h'⟩]
  simp
theorem mulOk_r {i j : Int} (h : -(2 ^ 64) < j) (h' : j < 2 ^ 64) : mulOk i j = true := by
  unfold RL.mulOk
  rw [decide_eq_true (p := -(2 ^ 64) < j ∧ j < 2 ^ 64) ⟨h, h'⟩]
  simp
end RL
namespace RL
open PySem PySem.Spec PyProof.Rows L2
theorem atI_nat {α : Type} {xs : List α} (k : Nat) : atI xs (k : Int) = xs[k]? := by
  unfold atI ixN
  by_cases h : k < xs.length
  · have h' : (k : Int) < xs.length := by omega
    have h2 : (0 : Int) ≤ k := by omega
    simp [h', h2]
  · have h' : ¬ (k : Int) < xs.length := by omega
    have h2 : (0 : Int) ≤ k := by omega
    simp [h', h2]
    omega
@[simp] theorem atI_0 {α : Type} {a : α} {l : List α} : atI (a :: l) 0 = some a := atI_nat 0
@[simp] theorem atI_1 {α : Type} {a b : α} {l : List α} : atI (a :: b :: l) 1 = some b := atI_nat 1
@[simp] theorem atI_2 {α : Type} {a b c : α} {l : List α} : atI (a :: b :: c :: l) 2 = some c := atI_nat 2
@[simp] theorem atI_3 {α : Type} {a b c d : α} {l : List α} : atI (a :: b :: c :: d :: l) 3 = some d := atI_nat 3
@[simp] theorem opIx_t {ds : List D} {i : Int} : opIx (.tup ds) (.int i) = atI ds i := rfl
@[simp] theorem opIx_l {o : Bool} {ds : List D} {i : Int} : opIx (.lst o ds) (.int i) = atI ds i := rfl
@[simp] theorem opEq_i {i j : Int} : opEq (.int i) (.int j) = some (.bl (decide (i = j))) := by
  simp [opEq, strs?, D.fit, fitN, D.py, PyData.eqv]
  rfl
@[simp] theorem opNe_i {i j : Int} : opNe (.int i) (.int j) = some (.bl (!decide (i = j))) := by
  simp [opNe, strs?, D.fit, fitN, D.py, PyData.eqv]
  rfl
@[simp] theorem opEq_s {i j : Str} : opEq (.str i) (.str j) = some (.bl (decide (i = j))) := rfl
@[simp] theorem opNe_s {i j : Str} : opNe (.str i) (.str j) = some (.bl (!decide (i = j))) := rfl
theorem fRepr_ok {d : D} (h : repOk d = true) : fRepr [d] = some (.str d.py.shown) := by simp [fRepr, h]
end RL
namespace RL
open PySem PySem.Spec PyProof.Rows L2
theorem sg {b : Int} (h : b ≠ 0) : b.sign = 1 ∨ b.sign = -1 := by
  rcases Int.lt_trichotomy b 0 with q | q | q
  · exact .inr (Int.sign_eq_neg_one_of_neg q)
  · exact absurd q h
  · exact .inl (Int.sign_eq_one_of_pos q)
end RL
namespace RL
open PySem PySem.Spec PyProof.Rows L2
structure Plc where
  at_ : D
  set : D → Env
def Foc (G : Gd) (P H : Hp) (σ : Sl) (A : List Addr) (v : V) (p : Plc) : Prop := ∃ B R, Rel G P H v p.at_ B ∧ A.Perm (B ++ R) ∧
  ∀ P' H' e' B', Same P P' → (∀ b ∈ R, H' b = H b) → Rel G P' H' v e' B' → ∃ A', EnvRel G P' H' σ (p.set e') A' ∧ A'.Perm (B' ++ R)
section
variable {G : Gd} {P H P1 H1 : Hp} {σ : Sl} {ρ : Env} {A : List Addr} {v : V} {p : Plc}
theorem Foc.ext (F : Foc G P H σ A v p) (st : StRel G P H σ ρ A) (x : Ext P H P1 H1 []) : Foc G P1 H1 σ A v p := by
  obtain ⟨B, R, r, q, w⟩ := F
  have hB : ∀ b ∈ B, b ∈ A := fun b hb => q.symm.subset (List.mem_append_left _ hb)
  have hR : ∀ b ∈ R, b ∈ A := fun b hb => q.symm.subset (List.mem_append_right _ hb)
  refine ⟨B, R, r.ext x fun b hb => st.off b (hB b hb), q, fun P' H' e' B' s h r' => w P' H' e' B' (x.same.trans s) (fun b hb => (h b hb).trans ?_) r'⟩
  exact (x.own (A := R) (fun b hb => st.env.at b (hR b hb)) fun b hb => st.off b (hR b hb)).1 b hb
theorem RelL.child : ∀ {vs : List V} {ds : List D} {A : List Addr} {j : Nat} {c : D}, RelL G P H vs ds A → ds[j]? = some c → ∃ v B R, vs[j]? = some v ∧ Rel G P H v c B ∧ A.Perm (B ++ R) ∧
    ∀ P' H' c' B', Same P P' → (∀ b ∈ R, H' b = H b) → Rel G P' H' v c' B' → ∃ A', RelL G P' H' vs (ds.set j c') A' ∧ A'.Perm (B' ++ R)
  | _, _, _, _, _, .nil, e => by simp at e
  | _, _, _, 0, _, .cons (v := v) (d := d) (A := A1) (B := B1) r t, e => by
    simp at e
    subst e
    exact ⟨v, A1, B1, rfl, r, .refl _, fun P' H' c' B' s h r' => ⟨_, .cons r' (t.mono s h), .refl _⟩⟩
  | _, _, _, j + 1, _, .cons (A := A1) (B := B1) r t, e => by
    obtain ⟨v, B, R, h1, h2, h3, h4⟩ := RelL.child (j := j) t (by simpa using e)
    refine ⟨v, B, A1 ++ R, by simpa using h1, h2, ?_, fun P' H' c' B' s h r' => ?_⟩
    · exact (h3.append_left A1).trans (List.perm_append_comm_assoc ..)
    · obtain ⟨A', q, p⟩ := h4 P' H' c' B' s (fun b hb => h b (List.mem_append_right _ hb)) r'
      exact ⟨_, .cons (r.mono s fun b hb => h b (List.mem_append_left _ hb)) q, (p.append_left A1).trans (List.perm_append_comm_assoc ..)⟩
end
def ixOf {α : Type} [DecidableEq α] : List α → α → Option Nat
  | [], _ => none
  | k :: ks, j => if k = j then some 0 else (ixOf ks j).map (· + 1)
theorem ixOf_look {β : Type} : ∀ {ks : List Str} {vs : List β} {k : Str} {j : Nat} {v : β}, ixOf ks k = some j → vs[j]? = some v → (ks.zip vs).lookup k = some v
  | [], _, _, _, _, e, _ => by simp [ixOf] at e
  | k :: ks, [], _, _, _, _, e => by simp at e
  | k :: ks, w :: vs, i, j, v, e, h => by
    by_cases hk : k = i
    · simp [ixOf, hk] at e
      subst e
      simp at h
      subst h
      simp [List.lookup, hk]
    · simp only [ixOf, hk, if_false, Option.map_eq_some_iff] at e
      obtain ⟨m, e, rfl⟩ := e
      have := ixOf_look e (by simpa using h)
      rw [List.zip_cons_cons, List.lookup_cons]
      have hb : (i == k) = false := by simpa using fun z => hk z.symm
      rw [hb]
      exact this
def chAt (ds : List D) (j : Option Nat) (up : List D → D) : Option (D × (D → D)) := j.bind fun j => (ds[j]?).map fun c => (c, fun c' => up (ds.set j c'))
def chIx : D → D → Option (D × (D → D))
  | .tup ds, .int i => chAt ds (ixN ds.length i) .tup
  | .lst true ds, .int i => chAt ds (ixN ds.length i) (.lst true)
  | .dct true ks ds, k => (keyOf k).bind fun k => chAt ds (ixOf ks k) (.dct true ks)
  | _, _ => none
def chFld (cs : List Str) (f : Str) : D → Option (D × (D → D))
  | .obj true c ns ds => if c ∈ cs then chAt ds (ixOf ns f) (.obj true c ns) else none
  | _ => none
theorem chAt_some {ds : List D} {j : Option Nat} {up : List D → D} {z : D × (D → D)} (h : chAt ds j up = some z) : ∃ k c, j = some k ∧ ds[k]? = some c ∧ z = (c, fun c' => up (ds.set k c')) := by
  unfold chAt at h
  cases j with
  | none => cases h
  | some k =>
    simp only [Option.bind_some, Option.map_eq_some_iff] at h
    obtain ⟨c, h1, h2⟩ := h
    exact ⟨k, c, rfl, h1, h2.symm⟩
def Plc.sub (p : Plc) (z : D × (D → D)) : Plc := ⟨z.1, fun c' => p.set (z.2 c')⟩
def tPl (G : Gd) (W : WX) (S : Env → Res Plc) : TE := fun σ H Q => ∃ P ρ A, StRel G P H σ ρ A ∧ match S ρ with
  | .ok p => ∀ v P' H', Ext P H P' H' [] → Foc G P' H' σ A v p → Q v H'
  | .exc x => PostX G P H W σ x
  | .bad => False
structure PlOk (X : Cx) (W : WX) (e : Expr) (S : Env → Res Plc) : Prop where pe : PE X e (tPl (gd X) W S)
section
variable {X : Cx} {W : WX} {e a b : Expr} {pos : Pos} {Sa Sb : Env → Res D} {Pa : Env → Res Plc} {L : List Nat}
def plVar (i : Nat) : Env → Res Plc := fun ρ => match ρ[i]? with
  | some (some d) => .ok ⟨d, fun d' => ρ.set i (some d')⟩
  | _ => .bad
theorem pl_var (i : Nat) {x : Str} {p : Pos} (hN : X.N[i]? = some x := by rfl) (hv : Vis X.env.scope x := by first | exact Or.inl rfl | exact Or.inr (Or.inl rfl) | exact Or.inr (Or.inr rfl)) (hd : (x == ("__debug__" : Str)) = false := by decide)
    (hcd : (x == ("__classdict__" : Str)) = false := by decide) : PlOk X W (.Name x p) (plVar i) := ⟨PE.imp (pe_var hN hv hd hcd) fun σ H Q ⟨P, ρ, A, st, q⟩ => by
  unfold plVar at q
  cases hi : ρ[i]? with
  | none => simp only [hi] at q
  | some o =>
    cases o with
    | none => simp only [hi] at q
    | some d =>
      simp only [hi] at q
      have hl : i < ρ.length := (List.getElem?_eq_some_iff.mp hi).1
      obtain ⟨B, C, pm, qc, hv⟩ := st.env.out hl
      rcases hv with ⟨d', v, h1, h2, r⟩ | ⟨h1, _⟩
      · rw [hi] at h1
        cases h1
        refine ⟨v, h2, q v P H (Ext.refl st.und) ⟨B, C, r, pm, fun P' H' e' B' s h r' => ?_⟩⟩
        obtain ⟨A', p', q'⟩ := (qc.mono s h).put (i := i) r' (by simpa using hl) (by simp [hl])
        rw [List.set_set, EnvRel.set_same h2] at q'
        exact ⟨A', q', p'⟩
      · rw [hi] at h1; cases h1⟩
def plIx (Pa : Env → Res Plc) (Sb : Env → Res D) : Env → Res Plc := fun ρ => (Pa ρ).bind fun p => (Sb ρ).bind fun y => opt ((chIx p.at_ y).map p.sub)
theorem Foc.part {G : Gd} {P H : Hp} {σ : Sl} {A : List Addr} {v : V} {p : Plc} {ds : List D} {vs : List V} {A0 B0 R : List Addr} {j : Nat} {c : D} {up : List D → D} (q : A.Perm ((A0 ++ B0) ++ R))
    (w : ∀ P' H' e' B', Same P P' → (∀ b ∈ R, H' b = H b) → Rel G P' H' v e' B' → ∃ A', EnvRel G P' H' σ (p.set e') A' ∧ A'.Perm (B' ++ R)) (r : RelL G P H vs ds B0) (hc : ds[j]? = some c)
    (mk : ∀ P' H' ds' B', Same P P' → (∀ b ∈ A0, H' b = H b) → RelL G P' H' vs ds' B' → Rel G P' H' v (up ds') (A0 ++ B')) : ∃ u, vs[j]? = some u ∧ Foc G P H σ A u (p.sub (c, fun c' => up (ds.set j c'))) := by
  obtain ⟨u, B, R1, h1, h2, h3, h4⟩ := r.child hc
  refine ⟨u, h1, B, A0 ++ R1 ++ R, h2, ?_, fun P' H' e' B' s h r' => ?_⟩
  · refine q.trans ((((h3.append_left A0).trans (List.perm_append_comm_assoc ..)).append_right R).trans ?_)
    rw [List.append_assoc]
  · obtain ⟨A1, q1, p1⟩ := h4 P' H' e' B' s (fun b hb => h b (by simp [hb])) r'
    obtain ⟨A2, q2, p2⟩ := w P' H' (up (ds.set j e')) (A0 ++ A1) s (fun b hb => h b (by simp [hb])) (mk P' H' _ _ s (fun b hb => h b (by simp [hb])) q1)
    refine ⟨A2, q2, p2.trans ((((p1.append_left A0).trans (List.perm_append_comm_assoc ..)).append_right R).trans ?_)⟩
    rw [List.append_assoc]
theorem Foc.done {G : Gd} {P0 H0 P H : Hp} {σ : Sl} {ρ : Env} {A : List Addr} {p : Plc} (st : StRel G P0 H0 σ ρ A) (x : Ext P0 H0 P H []) {l : Addr} {o' : HO} {e' : D} {B0 R B' : List Addr} (q : A.Perm ((l :: B0) ++ R))
    (w : ∀ P' H' e' B', Same P P' → (∀ b ∈ R, H' b = H b) → Rel G P' H' (.ref l) e' B' → ∃ A', EnvRel G P' H' σ (p.set e') A' ∧ A'.Perm (B' ++ R)) (r' : Rel G P (upd H l o') (.ref l) e' (l :: B')) (nd : (B' ++ R).Nodup) (nl : l ∉ B') (f : ∀ b ∈ B', P b = none ∧ (H0 b = none ∨ b ∈ A)) :
    ∃ A', After G P0 H0 σ A L P (upd H l o') σ (p.set e') A' := by
  have hl : l ∈ A := q.symm.subset (by simp)
  have hR : ∀ b ∈ R, b ∈ A := fun b hb => q.symm.subset (by simp [hb])
  have nR : l ∉ R := fun z => by
    have n := q.nodup_iff.mp st.nd
    exact (List.nodup_cons.mp n).1 (List.mem_append_right _ z)
  have off : ∀ b ∈ A, P b = none := (x.own st.env.at st.off).2
  obtain ⟨A', q1, p1⟩ := w P (upd H l o') e' (l :: B') (Same.refl P) (fun b hb => upd_ne fun z => nR (z ▸ hb)) r'
  have unl : ∀ o u, H0 l ≠ some (.frz o u) := st.env.unl l hl
  have unl' : ∀ o u, H l ≠ some (.frz o u) := fun o u z => by
    obtain ⟨o1, h1⟩ := st.env.at l hl
    have h2 := x.keep l o1 h1 (st.off l hl) (by simp)
    rw [h2] at z
    cases z
    exact unl _ _ h1
  refine ⟨A', ⟨x.same, fun b u hb => ?_, fun b o h1 h2 h3 => ?_, fun b o u h1 => ?_, fun b o hb => ?_⟩, ⟨fun b u hb => ?_, q1, ?_, fun b hb => ?_, st.mks.mono x.same⟩, fun b hb => ?_, rfl, fun _ _ => rfl⟩
  · have : b ≠ l := fun z => by rw [z, off l hl] at hb; cases hb
    rw [upd_ne this]; exact x.und b u hb
  · have : b ≠ l := fun z => h3 (z ▸ hl)
    rw [upd_ne this]; exact x.keep b o h1 h2 (by simp)
  · have : b ≠ l := fun z => unl o u (z ▸ h1)
    rw [upd_ne this]; exact x.lck b o u h1
  · rcases x.new b o hb with z | z | z
    · exact .inl z
    · exact .inr (.inl z)
    · simp at z
  · have : b ≠ l := fun z => by rw [z, off l hl] at hb; cases hb
    rw [upd_ne this]; exact x.und b u hb
  · refine p1.nodup_iff.mpr ?_
    rw [List.cons_append]
    refine List.nodup_cons.mpr ⟨fun z => ?_, nd⟩
    rcases List.mem_append.mp z with z | z
    · exact nl z
    · exact nR z
  · rcases List.mem_append.mp (p1.subset hb) with z | z
    · rcases List.mem_cons.mp z with rfl | z
      · exact off _ hl
      · exact (f b z).1
    · exact off b (hR b z)
  · rcases List.mem_append.mp (p1.subset hb) with z | z
    · rcases List.mem_cons.mp z with rfl | z
      · exact .inr hl
      · exact (f b z).2
    · exact .inr (hR b z)
def rMut (G : Gd) (f : D → List D → Option D) : V → List V → Hp → VK → Prop := fun x xs H Q => ∃ P e Be ds Bs, Under P H ∧ Rel G P H x e Be ∧ RelL G P H xs ds Bs ∧ (Be ++ Bs).Nodup ∧ (∀ b ∈ Be ++ Bs, P b = none) ∧ match f e ds with
  | some e' => ∀ l o' v B', x = .ref l → l ∈ Be → l ∉ B' → B'.Nodup → (∀ b ∈ B', b ∈ Be ++ Bs) → Rel G P (upd H l o') x e' (l :: B') → Q v (upd H l o')
  | none => False
def isLstO : D → Bool
  | .lst true _ => true
  | _ => false
def sMut (f : D → List D → Option D) (Pl : Env → Res Plc) (Sa : Env → Res (List D)) : Env → SRes := fun ρ => match Pl ρ with
  | .ok p => if isLstO p.at_ = true then (match Sa ρ with
    | .ok ds => (match f p.at_ ds with
      | some e' => .nx (p.set e')
      | none => .bad)
    | .exc x => .exc x ρ
    | .bad => .bad) else .bad
  | .exc x => .exc x ρ
  | .bad => .bad
theorem mut_imp {f : D → List D → Option D} {Pl : Env → Res Plc} {Sa : Env → Res (List D)} {D : Ends} {σ : Sl} {H : Hp} (h : tS (gd X) W L (sMut f Pl Sa) D σ H) :
    tPl (gd X) W Pl σ H fun x H1 => tyV X.K "list" x H1 ∧ tL (gd X) W Sa σ H1 fun xs H2 => rMut (gd X) f x xs H2 fun _ H3 => D.nx σ H3 := by
  obtain ⟨P, ρ, A, st, h⟩ := h
  refine ⟨P, ρ, A, st, ?_⟩
  unfold sMut at h
  cases hp : Pl ρ with
  | bad => simp only [hp] at h
  | exc x => simp only [hp] at h; exact PostX.stmt st h
  | ok p =>
    simp only [hp] at h
    intro v P1 H1 e1 F
    by_cases hl : isLstO p.at_ = true
    · rw [if_pos hl] at h
      refine ⟨?_, P1, ρ, A, st.ext e1, ?_⟩
      · obtain ⟨B, R, r, q, w⟩ := F
        generalize hpa : p.at_ = e at hl r
        cases r with
        | lstO hH rl => exact .inl ⟨rfl, _, SqL.of hH⟩
        | _ => simp [isLstO] at hl
      · cases hs : Sa ρ with
        | bad => simp only [hs] at h
        | exc x => simp only [hs] at h; exact PostX.ext (PostX.stmt st h) st.und e1
        | ok ds =>
          simp only [hs] at h
          intro vs P2 H2 Bs e2 rs fs
          obtain ⟨B, R, r, q, w⟩ := F.ext (st.ext e1) e2
          have st2 := (st.ext e1).ext e2
          have e12 := e1.trans st.und e2
          have hBA : ∀ b ∈ B, b ∈ A := fun b hb => q.symm.subset (List.mem_append_left _ hb)
          have hRA : ∀ b ∈ R, b ∈ A := fun b hb => q.symm.subset (List.mem_append_right _ hb)
          have fsA : ∀ b ∈ Bs, b ∉ A := fun b hb z => by
            obtain ⟨o, ho⟩ := (st.ext e1).env.at b z
            rw [(fs.2 b hb).1] at ho; cases ho
          obtain ⟨n1, n2, n3⟩ := List.nodup_append.mp (q.nodup_iff.mp st.nd)
          refine ⟨P2, p.at_, B, ds, Bs, e2.und, r, rs, List.nodup_append.mpr ⟨n1, fs.1, fun a ha b hb z => fsA b hb (z ▸ hBA a ha)⟩, fun b hb => ?_, ?_⟩
          · rcases List.mem_append.mp hb with z | z
            · exact st2.off b (hBA b z)
            · exact (fs.2 b z).2
          · cases hf : f p.at_ ds with
            | none => simp only [hf] at h
            | some e' =>
              simp only [hf] at h
              intro l o' v' B' hv hlB hlB' nB' sub r'
              subst hv
              obtain ⟨B0, hB0⟩ : ∃ B0, B.Perm (l :: B0) := ⟨_, List.perm_cons_erase hlB⟩
              have nd2 : (B' ++ R).Nodup := List.nodup_append.mpr ⟨nB', n2, fun a ha b hb z => by
                rcases List.mem_append.mp (sub a ha) with y | y
                · exact n3 a y b hb z
                · exact fsA a y (z ▸ hRA b hb)⟩
              have f2 : ∀ b ∈ B', P2 b = none ∧ (H b = none ∨ b ∈ A) := fun b hb => by
                rcases List.mem_append.mp (sub b hb) with y | y
                · exact ⟨st2.off b (hBA b y), .inr (hBA b y)⟩
                · exact ⟨(fs.2 b y).2, .inl (e1.free st.und (fs.2 b y).1)⟩
              obtain ⟨A', a⟩ := Foc.done (L := L) (p := p) (B0 := B0) st e12 (q.trans (hB0.append_right R)) w r' nd2 hlB' f2
              exact h σ P2 (upd H2 l o') A' a
    · rw [if_neg hl] at h; exact h.elim
theorem s_mut {o : Expr} {name : Str} {id : String} {apos cpos : Pos} {es : List Expr} {f : D → List D → Option D} {Pl : Env → Res Plc} {Sa : Env → Res (List D)} (slot : Slot "list" name id) (hty : typeOf (.builtin id) = pure (.type "method_descriptor"))
    (hm : MtR X id (rMut (gd X) f)) (ho : PlOk X W o Pl) (ha : AOk X W (e :: es) Sa) (hbase : attributeBase o name X.env (eval o X.env) = eval o X.env := by rfl)
    (hfew : ((backTo cpos (starEach (e :: es) X.env)).all (fun x => !x.1) && (backToKw cpos (keywordEach [] X.env)).all (fun x => x.1.isSome)
      && decide ((e :: es).length + ([] : List Keyword).length + (if ([] : List Keyword).isEmpty then 0 else 1) < 30)) = true := by rfl)
    (hline : (apos.endLine == cpos.line) = true := by rfl) (hs : starEach (e :: es) X.env = (false, eval e X.env) :: starEach es X.env := by rfl) (hplain : (backTo cpos (starEach es X.env)).any (·.1) = false := by rfl)
    (hsw : swapsWith (.Call (.Attribute o name apos) (e :: es) [] cpos) none pos.line X.env = pure false := by rfl) : SOk X W L (.Expr (.Call (.Attribute o name apos) (e :: es) [] cpos) pos) (sMut f Pl Sa) :=
  ⟨PS.imp (ps_expr (pe_bm PySem.F.plainAttrs_list slot hty hm ho.pe ha.pa hbase hfew hline hs hplain) hsw) fun D σ H h => mut_imp h⟩
def mAppend : D → List D → Option D
  | .lst true ds, [d] => if ds.length < sizeLine then some (.lst true (ds ++ [d])) else none
  | _, _ => none
theorem rMut1 {G : Gd} {f : D → List D → Option D} {x : V} {xs : List V} {H : Hp} {Q : VK} (h : rMut G f x xs H Q) (hl : ∀ e ds e', f e ds = some e' → isLstO e = true) :
    ∃ P l vs es B0 ds Bs e', x = .ref l ∧ Under P H ∧ H l = some (.lst vs) ∧ RelL G P H vs es B0 ∧ RelL G P H xs ds Bs ∧ l ∉ B0 ∧ l ∉ Bs ∧ (B0 ++ Bs).Nodup ∧ f (.lst true es) ds = some e' ∧
      ∀ vs' es' B' v, e' = .lst true es' → B'.Nodup → (∀ b ∈ B', b ∈ B0 ++ Bs) → RelL G P H vs' es' B' → Q v (upd H l (.lst vs')) := by
  obtain ⟨P, e, Be, ds, Bs, un, r, rs, nd, off, h⟩ := h
  cases hf : f e ds with
  | none => rw [hf] at h; exact h.elim
  | some e' =>
    rw [hf] at h
    have := hl _ _ _ hf
    cases r with
    | @lstO l vs es B0 hH rl =>
      obtain ⟨n1, n2, n3⟩ := List.nodup_append.mp nd
      obtain ⟨m1, m2⟩ := List.nodup_cons.mp n1
      have lb : l ∉ Bs := fun z => n3 l List.mem_cons_self l z rfl
      refine ⟨P, l, vs, es, B0, ds, Bs, e', rfl, un, hH, rl, rs, m1, lb, List.nodup_append.mpr ⟨m2, n2, fun a ha b hb => n3 a (List.mem_cons_of_mem _ ha) b hb⟩, hf, fun vs' es' B' v he nB sub r' => ?_⟩
      have nl : l ∉ B' := fun z => (List.mem_append.mp (sub l z)).elim m1 lb
      refine h l _ v B' rfl List.mem_cons_self nl nB (fun b hb => ?_) ?_
      · rcases List.mem_append.mp (sub b hb) with z | z
        · exact List.mem_append_left _ (List.mem_cons_of_mem _ z)
        · exact List.mem_append_right _ z
      · rw [he]
        exact .lstO upd_same (r'.mono (Same.refl P) fun b hb => upd_ne fun z => nl (z ▸ hb))
    | _ => simp [isLstO] at this
theorem m_append : MtR X "list.append" (rMut (gd X) mAppend) := MtR.imp mt_append fun x xs H Q h => by
  obtain ⟨P, l, vs, es, B0, ds, Bs, e', rfl, un, hH, rl, rs, n1, n2, nd, hf, q⟩ := rMut1 h fun e ds e' h => by
    unfold mAppend at h; split at h <;> first | rfl | cases h
  cases rs with
  | nil => simp [mAppend] at hf
  | @cons v d B1 vs1 ds1 B2 r1 r2 =>
    cases r2 with
    | cons _ _ => simp [mAppend] at hf
    | nil =>
      simp only [mAppend] at hf
      split at hf
      · rename_i c
        cases hf
        rw [List.append_nil] at nd q
        exact ⟨l, vs, v, rfl, rfl, hH, by rw [rl.length]; exact c, q _ _ (B0 ++ B1) _ rfl nd (fun b hb => hb) (rl.snoc r1)⟩
      · cases hf
def mExtend : D → List D → Option D
  | .lst true ds, [.lst _ es] => if ds.length + es.length ≤ sizeLine then some (.lst true (ds ++ es)) else none
  | _, _ => none
theorem RelL.app {G : Gd} {P H : Hp} : ∀ {xs ys : List V} {ds es : List D} {A B : List Addr}, RelL G P H xs ds A → RelL G P H ys es B → RelL G P H (xs ++ ys) (ds ++ es) (A ++ B)
  | _, _, _, _, _, _, .nil, t => t
  | _, _, _, _, _, _, .cons r1 r2, t => by
    rw [List.append_assoc]
    exact .cons r1 (RelL.app r2 t)
theorem Under.lst {P H : Hp} (u : Under P H) {a : Addr} {xs : List V} (h : P a = some (.lst xs)) : H a = some (.lst xs) := by
  rcases u _ _ h with z | ⟨_, _, z, _⟩ | ⟨_, _, z, _⟩
  · exact z
  · cases z
  · cases z
theorem m_extend : MtR X "list.extend" (rMut (gd X) mExtend) := MtR.imp mt_extend fun x xs H Q h => by
  obtain ⟨P, l, vs, es, B0, ds, Bs, e', rfl, un, hH, rl, rs, n1, n2, nd, hf, q⟩ := rMut1 h fun e ds e' h => by
    unfold mExtend at h; split at h <;> first | rfl | cases h
  cases rs with
  | nil => simp [mExtend] at hf
  | @cons v d B1 vs1 ds1 B2 r1 r2 =>
    cases r2 with
    | cons _ _ => cases d <;> simp [mExtend] at hf
    | nil =>
      rw [List.append_nil] at nd q
      cases r1 with
      | @lstF a ws fs hP rf =>
        simp only [mExtend] at hf
        split at hf
        · rename_i c
          cases hf
          exact ⟨l, a, vs, ws, rfl, rfl, hH, un.lst hP, by rw [rl.length, rf.length]; exact c, q _ _ (B0 ++ []) _ rfl nd (fun b hb => hb) (rl.app rf)⟩
        · cases hf
      | @lstO a ws fs B3 hP rf =>
        simp only [mExtend] at hf
        split at hf
        · rename_i c
          cases hf
          obtain ⟨k1, k2, k3⟩ := List.nodup_append.mp nd
          exact ⟨l, a, vs, ws, rfl, rfl, hH, hP, by rw [rl.length, rf.length]; exact c, q _ _ (B0 ++ B3) _ rfl (List.nodup_append.mpr ⟨k1, (List.nodup_cons.mp k2).2, fun a ha b hb => k3 a ha b (List.mem_cons_of_mem _ hb)⟩) (fun b hb => by
            rcases List.mem_append.mp hb with z | z
            · exact List.mem_append_left _ z
            · exact List.mem_append_right _ (List.mem_cons_of_mem _ z)) (rl.app rf)⟩
        · cases hf
      | _ => simp [mExtend] at hf
end
end RL
namespace RL
open PySem PySem.Spec PyProof.Rows L2
structure FldOk (K : PySem.W.Frag) (mg : Str → Option Value) (f : Str) (cs : List Str) : Prop where
  ex : ∀ c ∈ cs, ∃ C, mg c = some (.ref C) ∧ Cls K C ∧ NoAttr K C f
structure MthOk (P : Program) (w : World) (K : PySem.W.Frag) (mg : Str → Option Value) (base : Heap) (c m : Str) (k : Nat) (ps : List Str) (L : List Nat) (φ : List D → FR) : Prop where
  ex : ∃ f fd C, FnG P w K mg base k f fd ps (spF ⟨K, mg⟩ ps.length L φ) ∧ Binds K fd ps [] ∧ mg c = some (.ref C) ∧ Cls K C ∧ Meth K C m f
structure MkOk (P : Program) (w : World) (K : PySem.W.Frag) (mg : Str → Option Value) (base : Heap) (c : Str) (k : Nat) (ps : List Str) (φ : List D → FR) : Prop where
  ex : ∃ f fd C, FnG P w K mg base k f fd ps (spF ⟨K, mg⟩ ps.length [0] φ) ∧ Binds K fd ps [] ∧ mg c = some (.ref C) ∧ Mk K C f
section
variable {X : Cx} {W : WX} {e a b o : Expr} {es : List Expr} {pos apos : Pos} {Sa Sb So : Env → Res D} {Ss : Env → Res (List D)} {Pa : Env → Res Plc} {L : List Nat} {f m c : Str} {cs : List Str}
def getF (cs : List Str) (f : Str) : D → Option D
  | .obj _ c ns ds => if c ∈ cs then (ixOf ns f).bind fun j => ds[j]? else none
  | _ => none
def sFld (cs : List Str) (f : Str) (S : Env → Res D) : Env → Res D := fun ρ => (S ρ).bind fun d => opt (getF cs f d)
theorem Under.ins {P H : Hp} (u : Under P H) {a C dx : Addr} {fs : List (Str × V)} (h : P a = some (.ins C dx fs)) : H a = some (.ins C dx fs) := by
  rcases u _ _ h with z | ⟨_, _, z, _⟩ | ⟨_, _, z, _⟩
  · exact z
  · cases z
  · cases z
theorem obj_of {G : Gd} {P H : Hp} {v : V} {o : Bool} {ns : List Str} {ds : List D} {B : List Addr} (u : Under P H) (r : Rel G P H v (.obj o c ns ds) B) : ∃ a C dx vs B0, v = .ref a ∧ G.mg c = some (.ref C) ∧ H a = some (.ins C dx (ns.zip vs)) ∧ ns.length = vs.length ∧ RelL G P H vs ds B0 ∧ ∀ b ∈ B0, b ∈ B := by
  cases r with
  | objF hc q l r => exact ⟨_, _, _, _, _, rfl, hc, u.ins q, l, r, fun b hb => hb⟩
  | objO hc q l r => exact ⟨_, _, _, _, _, rfl, hc, q, l, r, fun b hb => List.mem_cons_of_mem _ hb⟩
theorem b_fld (hf : FldOk X.K X.mg f cs) (ha : BOk X W a Sa) (hb : attributeBase a f X.env (eval a X.env) = eval a X.env := by rfl) : BOk X W (.Attribute a f pos) (sFld cs f Sa) :=
  ⟨PE.imp (pe_fld ha.pe hb) fun σ H Q ⟨P, ρ, A, st, h⟩ => ⟨P, ρ, A, st, by
    unfold sFld at h
    cases hs : Sa ρ with
    | bad => simp only [hs, Res.bind] at h
    | exc x => simp only [hs, Res.bind] at h; exact h
    | ok d =>
      simp only [hs, Res.bind] at h
      intro v P1 H1 B e1 r off
      cases hg : getF cs f d with
      | none => simp only [hg, opt] at h
      | some z =>
        simp only [hg, opt] at h
        cases d with
        | obj ob c ns ds =>
          simp only [getF] at hg
          split at hg
          · rename_i hc
            obtain ⟨a, C, dx, vs, B0, rfl, mg, hH, hl, rl, sub⟩ := obj_of e1.und r
            obtain ⟨C', mg', cl, na⟩ := hf.ex _ hc
            have : C' = C := by
              have := mg.symm.trans mg'
              cases this; rfl
            subst this
            cases hj : ixOf ns f with
            | none => rw [hj] at hg; cases hg
            | some j =>
              rw [hj] at hg
              obtain ⟨w, B1, h1, h2, h3⟩ := rl.get hg
              exact ⟨a, C', dx, _, w, rfl, hH, cl, na, ixOf_look hj h1, h w P1 H1 B1 e1 h2 fun b hb => off b (sub b (h3 b hb))⟩
          · cases hg
        | _ => simp [getF] at hg⟩⟩
def plFld (cs : List Str) (f : Str) (Pa : Env → Res Plc) : Env → Res Plc := fun ρ => (Pa ρ).bind fun p => opt ((chFld cs f p.at_).map p.sub)
theorem pl_fld (hf : FldOk X.K X.mg f cs) (ha : PlOk X W a Pa) (hb : attributeBase a f X.env (eval a X.env) = eval a X.env := by rfl) : PlOk X W (.Attribute a f pos) (plFld cs f Pa) :=
  ⟨PE.imp (pe_fld ha.pe hb) fun σ H Q ⟨P, ρ, A, st, h⟩ => ⟨P, ρ, A, st, by
    unfold plFld at h
    cases hs : Pa ρ with
    | bad => simp only [hs, Res.bind] at h
    | exc x => simp only [hs, Res.bind] at h; exact h
    | ok p =>
      simp only [hs, Res.bind] at h
      intro v P1 H1 e1 F
      cases hz : chFld cs f p.at_ with
      | none => simp only [hz, Option.map, opt] at h
      | some z =>
        simp only [hz, Option.map, opt] at h
        obtain ⟨B, R, r, q, w⟩ := F
        cases hd : p.at_ with
        | obj ob c ns ds =>
          rw [hd] at hz r
          cases ob with
          | false => simp [chFld] at hz
          | true =>
            simp only [chFld] at hz
            split at hz
            · rename_i hc
              obtain ⟨j, cc, hj, hcc, rfl⟩ := chAt_some hz
              cases r with
              | @objO a dx C c ns vs ds A0 mg hH hl rl =>
                obtain ⟨C', mg', cl, na⟩ := hf.ex _ hc
                have : C' = C := by
                  have := mg.symm.trans mg'
                  cases this; rfl
                subst this
                obtain ⟨u, hu1, Fu⟩ := Foc.part (A0 := [a]) (up := .obj true c ns) (by simpa using q) w rl hcc fun P' H' ds' B' s hA r' => .objO mg (by rw [hA _ List.mem_cons_self]; exact hH) hl r'
                exact ⟨a, C', dx, _, u, rfl, hH, cl, na, ixOf_look hj hu1, h u P1 H1 e1 Fu⟩
            · cases hz
        | _ => rw [hd] at hz; simp [chFld] at hz⟩⟩
def putFN (f : Str) : List Str → List Str
  | [] => [f]
  | g :: ns => if g = f then g :: ns else g :: putFN f ns
def putFD {α : Type} (f : Str) (d : α) : List Str → List α → List α
  | g :: ns, x :: ds => if g = f then d :: ds else x :: putFD f d ns ds
  | _, _ => [d]
theorem putF_zip {f : Str} {v : V} : ∀ {ns : List Str} {vs : List V}, ns.length = vs.length → putF f v (ns.zip vs) = (putFN f ns).zip (putFD f v ns vs) ∧ (putFN f ns).length = (putFD f v ns vs).length
  | [], [], _ => ⟨rfl, rfl⟩
  | [], _ :: _, h => by simp at h
  | _ :: _, [], h => by simp at h
  | g :: ns, x :: vs, h => by
    have ih := putF_zip (f := f) (v := v) (ns := ns) (vs := vs) (by simpa using h)
    simp only [List.zip_cons_cons, putF, putFN, putFD]
    by_cases e : g = f
    · simp only [e, if_true, List.zip_cons_cons, List.length_cons]
      exact ⟨trivial, by simpa using h⟩
    · simp only [e, if_false, List.zip_cons_cons, List.length_cons, ih.1, ih.2]
      exact ⟨trivial, trivial⟩
theorem RelL.putF {G : Gd} {P H : Hp} {f : Str} {v : V} {d : D} {Bv : List Addr} (r : Rel G P H v d Bv) : ∀ {ns : List Str} {vs : List V} {ds : List D} {B : List Addr}, RelL G P H vs ds B → ns.length = vs.length → ∃ B1, RelL G P H (putFD f v ns vs) (putFD f d ns ds) (B1) ∧ (∃ R, B1.Perm (Bv ++ R) ∧ R.Sublist B)
  | [], _, _, _, .nil, _ => ⟨Bv ++ [], .cons r .nil, [], .refl _, List.Sublist.refl _⟩
  | _ :: _, _, _, _, .nil, h => by simp at h
  | [], _, _, _, .cons _ _, h => by simp at h
  | g :: ns, _, _, _, .cons (A := A1) (B := B1) r1 t, h => by
    simp only [putFD]
    by_cases e : g = f
    · simp only [e, if_true]
      exact ⟨_, .cons r t, B1, .refl _, List.sublist_append_right _ _⟩
    · simp only [e, if_false]
      obtain ⟨B2, q, R, p, s⟩ := RelL.putF (f := f) r (ns := ns) t (by simpa using h)
      exact ⟨_, .cons r1 q, A1 ++ R, (p.append_left A1).trans (List.perm_append_comm_assoc ..), List.Sublist.append_left s A1⟩
def setF (cs : List Str) (f : Str) (d : D) : D → Option D
  | .obj true c ns ds => if c ∈ cs ∧ ns.length < 1000 then some (.obj true c (putFN f ns) (putFD f d ns ds)) else none
  | _ => none
def sSetF (cs : List Str) (f : Str) (fz : Bool) (Pl : Env → Res Plc) (S : Env → Res D) : Env → SRes := fun ρ => match S ρ with
  | .ok d => (match Pl ρ with
    | .ok p => (match setF cs f (if fz then d.frz else d) p.at_ with
      | some d' => .nx (p.set d')
      | none => .bad)
    | .exc x => .exc x ρ
    | .bad => .bad)
  | .exc x => .exc x ρ
  | .bad => .bad
theorem fz_of {G : Gd} {P H P1 H1 : Hp} {B : List Addr} {d : D} {v : V} (u : Under P H) (e : Ext P H P1 H1 []) (r : Rel G P1 H1 v d B) (f : Fresh P1 H B) (fz : Bool) : ∃ P2 B2, Ext P H P2 H1 [] ∧ Same P1 P2 ∧ Rel G P2 H1 v (if fz then d.frz else d) B2 ∧ Fresh P2 H B2 ∧ ∀ b ∈ B2, b ∈ B := by
  cases fz with
  | false => exact ⟨P1, B, e, Same.refl _, r, f, fun b hb => hb⟩
  | true =>
    have g := give_ext (A := B) e.und fun b hb => (f.2 b hb).2
    refine ⟨give P1 H1 B, [], ⟨e.same.trans g.same, g.und, e.keep, e.lck, fun b w q => ?_⟩, g.same, r.frz g.same fun b hb => give_in hb, Fresh.nil, fun b hb => by simp at hb⟩
    rcases g.new b w q with z | z | z
    · exact e.new b w z
    · exact .inr (.inl (e.free u z))
    · exact .inr (.inl (f.2 b z).1)
theorem s_setF (fz : Bool) {Se : Env → Res D} {Pl : Env → Res Plc} (hf : FldOk X.K X.mg f cs) (ho : PlOk X W o Pl) (he : EOk X W e Se) (hs : swapsWith e (some (.Attribute o f apos)) pos.line X.env = pure false := by rfl) :
    SOk X W L (.Assign [.Attribute o f apos] e pos) (sSetF cs f fz Pl Se) := ⟨PS.imp (ps_fld ho.pe he.pe hs) fun D σ H ⟨P, ρ, A, st, h⟩ => ⟨P, ρ, A, st, by
  unfold sSetF at h
  cases hse : Se ρ with
  | bad => simp only [hse] at h
  | exc x => simp only [hse] at h; exact PostX.stmt st h
  | ok d =>
    simp only [hse] at h
    intro v P1 H1 B e1 r fr
    obtain ⟨P2, B2, e2, sm, r2, f2, sub2⟩ := fz_of st.und e1 r fr fz
    refine ⟨P2, ρ, A, st.ext e2, ?_⟩
    cases hp : Pl ρ with
    | bad => simp only [hp] at h
    | exc x => simp only [hp] at h; exact PostX.ext (PostX.stmt st h) st.und e2
    | ok p =>
      simp only [hp] at h
      intro u P3 H3 e3 F
      cases hz : setF cs f (if fz then d.frz else d) p.at_ with
      | none => simp only [hz] at h
      | some d' =>
        simp only [hz] at h
        obtain ⟨B, R, rp, q, w⟩ := F
        cases hd : p.at_ with
        | obj ob c ns ds =>
          rw [hd] at hz rp
          cases ob with
          | false => simp [setF] at hz
          | true =>
            simp only [setF] at hz
            split at hz
            · rename_i hc
              cases hz
              cases rp with
              | @objO a dx C c ns vs ds A0 mg hH hl rl =>
                obtain ⟨C', mg', cl, na⟩ := hf.ex _ hc.1
                have : C' = C := by
                  have := mg.symm.trans mg'
                  cases this; rfl
                subst this
                have e13 := e2.trans st.und e3
                have r3 := r2.ext e3 fun b hb => (f2.2 b hb).2
                obtain ⟨z1, z2⟩ := putF_zip (f := f) (v := v) hl
                obtain ⟨B1, q1, R1, p1, s1⟩ := RelL.putF (f := f) r3 rl hl
                have st3 := st.ext e13
                have hA : ∀ b ∈ a :: A0, b ∈ A := fun b hb => q.symm.subset (List.mem_append_left _ hb)
                have B2A : ∀ b ∈ B2, b ∉ A := fun b hb z => by
                  obtain ⟨ob, hob⟩ := st.env.at b z
                  rw [(f2.2 b hb).1] at hob; cases hob
                obtain ⟨n1, n2, n3⟩ := List.nodup_append.mp (q.nodup_iff.mp st.nd)
                obtain ⟨m1, m2⟩ := List.nodup_cons.mp n1
                have mem1 : ∀ b ∈ B1, b ∈ B2 ∨ b ∈ A0 := fun b hb => (List.mem_append.mp (p1.subset hb)).imp id fun z => s1.subset z
                have na1 : a ∉ B1 := fun z => by
                  rcases mem1 a z with y | y
                  · exact B2A a y (hA a List.mem_cons_self)
                  · exact m1 y
                have nd1 : B1.Nodup := p1.nodup_iff.mpr (List.nodup_append.mpr ⟨f2.1, m2.sublist s1, fun x hx y hy z => B2A x hx (z ▸ hA y (List.mem_cons_of_mem _ (s1.subset hy)))⟩)
                have nd2 : (B1 ++ R).Nodup := List.nodup_append.mpr ⟨nd1, n2, fun x hx y hy z => by
                  rcases mem1 x hx with k | k
                  · exact B2A x k (z ▸ q.symm.subset (List.mem_append_right _ hy))
                  · exact n3 x (List.mem_cons_of_mem _ k) y hy z⟩
                have fr1 : ∀ b ∈ B1, P3 b = none ∧ (H b = none ∨ b ∈ A) := fun b hb => by
                  rcases mem1 b hb with k | k
                  · exact ⟨(e3.own r2.at fun b hb => (f2.2 b hb).2).2 b k, .inl (f2.2 b k).1⟩
                  · exact ⟨st3.off b (hA b (List.mem_cons_of_mem _ k)), .inr (hA b (List.mem_cons_of_mem _ k))⟩
                have rr : Rel (gd X) P3 (upd H3 a (.ins C' dx (putF f v (ns.zip vs)))) (.ref a) (.obj true c (putFN f ns) (putFD f (if fz then d.frz else d) ns ds)) (a :: B1) := by
                  rw [z1]
                  exact .objO mg upd_same z2 (q1.mono (Same.refl _) fun b hb => upd_ne fun z => na1 (z ▸ hb))
                obtain ⟨A', af⟩ := Foc.done (L := L) (p := p) (B0 := A0) st e13 q w rr nd2 na1 fr1
                exact ⟨a, C', dx, _, rfl, hH, cl, na, by rw [List.length_zip]; have := hc.2; omega, h σ _ _ A' af⟩
            · cases hz
        | _ => rw [hd] at hz; simp [setF] at hz⟩⟩
def mthC (c m : Str) (n : Nat) (φ : List D → FR) (So : Env → Res D) (Ss : Env → Res (List D)) : Env → Res D := fun ρ => (So ρ).bind fun o => match o with
  | .obj _ c' ns _ => if c' = c ∧ m ∉ ns then (Ss ρ).bind fun ds => if ds.length + 1 = n then (match φ (frzL (o :: ds)) with
    | .ok d _ => .ok d
    | .exc x _ => .exc x
    | .bad => .bad) else .bad else .bad
  | _ => .bad
theorem look_zip {ns : List Str} {vs : List V} {m : Str} (h : m ∉ ns) : (ns.zip vs).lookup m = none := by
  induction ns generalizing vs with
  | nil => rfl
  | cons g ns ih =>
    cases vs with
    | nil => rfl
    | cons v vs =>
      rw [List.zip_cons_cons, List.lookup_cons]
      have hb : (m == g) = false := by simpa using fun z => h (by simp [z])
      rw [hb]
      exact ih fun z => h (List.mem_cons_of_mem _ z)
theorem spF_res {G : Gd} {φ : List D → FR} {n : Nat} {P H P1 H1 : Hp} {vs : List V} {ds : List D} {B : List Addr} {Q : VK} {E : XK} {W : WX} {σ : Sl} (u : Under P H) (mk : Marks G P) (e : Ext P H P1 H1 []) (r : RelL G P1 H1 vs ds B) (f : Fresh P1 H B) (hn : ds.length = n)
    (h : match (match φ (frzL ds) with
      | .ok d _ => Res.ok d
      | .exc x _ => .exc x
      | .bad => .bad) with
      | .ok d => Post G P H Q d
      | .exc x => PostX G P H W σ x
      | .bad => False) (hE : ∀ cls d H', W cls d σ H' → E cls d H') : spF G n [] φ vs H1 Q E := by
  refine spF_of (W := W) (σ := σ) u mk e r f (r.length.trans hn) ?_ hE
  cases hφ : φ (frzL ds) <;> simp only [hφ] at h <;> exact h
variable {k : Nat} {ps : List Str} {φ : List D → FR}
theorem mth_one (F : MthOk X.prog X.w X.K X.mg X.base c m k ps [] φ) (hr : GRoom k X.A) (tk : Takes X W) (ho : EOk X W o So) (ha : AOk X W (e :: es) Ss) {pl : Sem Bool} (hst : starEach (e :: es) X.env = (false, eval e X.env) :: starEach es X.env) (hpl : (backTo pos (starEach es X.env)).any (·.1) = false)
    (ht : eval (.Call (.Attribute o m apos) (e :: es) [] pos) X.env = (do
      let ov ← eval o X.env
      standAt apos.atName
      let (f, first) ← holding [ov] (getMethod ov m pl)
      callWith pos f first (backTo pos (starEach (e :: es) X.env)) (backToKw pos (keywordEach [] X.env)))) :
    PE X (.Call (.Attribute o m apos) (e :: es) [] pos) (tE (gd X) W (mthC c m ps.length φ So Ss)) := by
  obtain ⟨f, fd, C, F, hb, mgC, cl, hm⟩ := F.ex
  refine ⟨fun pins s σ H Q I ⟨P, ρ, A, st, h⟩ => ?_⟩
  have h1 : tE (gd X) W So σ H fun x H1 => ∃ a dx fs, x = .ref a ∧ H1 a = some (.ins C dx fs) ∧ fs.lookup m = none ∧ tL (gd X) W Ss σ H1 fun vs H2 => spF (gd X) ps.length [] φ (x :: vs) H2 Q fun cls d H' => W cls d σ H' := by
    refine ⟨P, ρ, A, st, ?_⟩
    unfold mthC at h
    cases hso : So ρ with
    | bad => simp only [hso, Res.bind] at h
    | exc x => simp only [hso, Res.bind] at h; exact h
    | ok d =>
      simp only [hso, Res.bind] at h
      intro v P1 H1 B1 e1 r1 f1
      cases d with
      | obj ob c' ns ds =>
        simp only at h
        by_cases hc : c' = c ∧ m ∉ ns
        · rw [if_pos hc] at h
          obtain ⟨rfl, hn⟩ := hc
          obtain ⟨a, C', dx, vs, B0, rfl, mg, hH, hl, rl, sub⟩ := obj_of e1.und r1
          have : C' = C := by
            have := mg.symm.trans mgC
            cases this; rfl
          subst this
          refine ⟨a, dx, _, rfl, hH, look_zip hn, P1, ρ, A, st.ext e1, ?_⟩
          cases hs : Ss ρ with
          | bad => simp only [hs] at h
          | exc x => simp only [hs] at h; exact PostX.ext h st.und e1
          | ok ds' =>
            simp only [hs] at h
            intro vs' P2 H2 B2 e2 r2 f2
            by_cases hnn : ds'.length + 1 = ps.length
            · rw [if_pos hnn] at h
              have o1 : ∀ b ∈ B1, P1 b = none := fun b hb => (f1.2 b hb).2
              have fr : Fresh P2 H (B1 ++ B2) := by
                refine ⟨List.nodup_append.mpr ⟨f1.1, f2.1, fun x hx y hy z => ?_⟩, fun b hb => ?_⟩
                · obtain ⟨oo, hoo⟩ := r1.at x hx
                  rw [z, (f2.2 y hy).1] at hoo; cases hoo
                · rcases List.mem_append.mp hb with hb | hb
                  · exact ⟨(f1.2 b hb).1, (e2.own r1.at o1).2 b hb⟩
                  · exact ⟨e1.free st.und (f2.2 b hb).1, (f2.2 b hb).2⟩
              exact spF_res (W := W) (σ := σ) st.und st.mks (e1.trans st.und e2) (.cons (r1.ext e2 o1) r2) fr (by simpa using hnn) h fun _ _ _ z => z
            · rw [if_neg hnn] at h; exact h.elim
        · rw [if_neg hc] at h; exact h.elim
      | _ => exact (show False from h).elim
  refine PySem.W.methodCall_KW (pl := pl) (thn (ho.pe.run pins s σ H _ I h1) fun u s1 ⟨x, H1, I1, rx, a, dx, fs, ex, ea, l, q⟩ => ?_) ht
  subst ex
  obtain rfl : u = Value.ref a := rx
  refine getmeth_ok I1 ea cl hm l ?_
  refine PySem.W.callWith_K (first := [.ref a]) (h₀ := X.base) I.ok.mod.kin hm.kp (thn (ha.pa.run pos pins s1 σ H1 _ I1 q) fun us s2 ⟨vs, H2, I2, r, q2⟩ => ⟨I2.kIn, ?_⟩) hst hpl
  exact run_fnG (us := .ref a :: us) (vs := .ref a :: vs) F hr hb tk I2 (.cons rfl r) q2
theorem mth_one0 (F : MthOk X.prog X.w X.K X.mg X.base c m k ps [] φ) (hr : GRoom k X.A) (tk : Takes X W) (ho : EOk X W o So) {pl : Sem Bool}
    (ht : eval (.Call (.Attribute o m apos) [] [] pos) X.env = (do
      let ov ← eval o X.env
      standAt apos.atName
      let (f, first) ← holding [ov] (getMethod ov m pl)
      callWith pos f first (backTo pos (starEach [] X.env)) (backToKw pos (keywordEach [] X.env)))) :
    PE X (.Call (.Attribute o m apos) [] [] pos) (tE (gd X) W (mthC c m ps.length φ So sNil)) := by
  obtain ⟨f, fd, C, F, hb, mgC, cl, hm⟩ := F.ex
  refine ⟨fun pins s σ H Q I ⟨P, ρ, A, st, h⟩ => ?_⟩
  have h1 : tE (gd X) W So σ H fun x H1 => ∃ a dx fs, x = .ref a ∧ H1 a = some (.ins C dx fs) ∧ fs.lookup m = none ∧ spF (gd X) ps.length [] φ [x] H1 Q fun cls d H' => W cls d σ H' := by
    refine ⟨P, ρ, A, st, ?_⟩
    unfold mthC at h
    cases hso : So ρ with
    | bad => simp only [hso, Res.bind] at h
    | exc x => simp only [hso, Res.bind] at h; exact h
    | ok d =>
      simp only [hso, Res.bind] at h
      intro v P1 H1 B1 e1 r1 f1
      cases d with
      | obj ob c' ns ds =>
        simp only at h
        by_cases hc : c' = c ∧ m ∉ ns
        · rw [if_pos hc] at h
          obtain ⟨rfl, hn⟩ := hc
          obtain ⟨a, C', dx, vs, B0, rfl, mg, hH, hl, rl, sub⟩ := obj_of e1.und r1
          have : C' = C := by
            have := mg.symm.trans mgC
            cases this; rfl
          subst this
          refine ⟨a, dx, _, rfl, hH, look_zip hn, ?_⟩
          simp only [sNil] at h
          by_cases hnn : ([] : List D).length + 1 = ps.length
          · rw [if_pos hnn] at h
            exact spF_res (W := W) (σ := σ) st.und st.mks e1 (.cons (B := []) r1 .nil) (by simpa using f1) (by simpa using hnn) h fun _ _ _ z => z
          · rw [if_neg hnn] at h; exact h.elim
        · rw [if_neg hc] at h; exact h.elim
      | _ => exact (show False from h).elim
  refine PySem.W.methodCall_KW (pl := pl) (thn (ho.pe.run pins s σ H _ I h1) fun u s1 ⟨x, H1, I1, rx, a, dx, fs, ex, ea, l, q⟩ => ?_) ht
  subst ex
  obtain rfl : u = Value.ref a := rx
  refine getmeth_ok I1 ea cl hm l ?_
  exact PySem.W.callWith_K0 (first := [.ref a]) I1.kIn hm.kp (run_fnG (us := [.ref a]) (vs := [.ref a]) F hr hb tk I1 (.cons rfl .nil) q)
inductive TabOk (P : Program) (w : World) (K : PySem.W.Frag) (mg : Str → Option Value) (base : Heap) (m : Str) (k : Nat) (ps : List Str) : List (Str × (List D → FR)) → Prop
  | nil : TabOk P w K mg base m k ps []
  | cons {c : Str} {φ : List D → FR} {tab : List (Str × (List D → FR))} {j : Nat} : MthOk P w K mg base c m j ps [] φ → j ≤ k → TabOk P w K mg base m k ps tab → TabOk P w K mg base m k ps ((c, φ) :: tab)
def tabGo (tab : List (Str × (List D → FR))) (c : Str) : Option (List D → FR) := match tab with
  | [] => none
  | (c', φ) :: r => if c = c' then some φ else tabGo r c
def sMeth (m : Str) (tab : List (Str × (List D → FR))) (n : Nat) (So : Env → Res D) (Ss : Env → Res (List D)) : Env → Res D := fun ρ => (So ρ).bind fun o => match o with
  | .obj _ c ns _ => if m ∉ ns then (match tabGo tab c with
    | some φ => (Ss ρ).bind fun ds => if ds.length + 1 = n then (match φ (frzL (o :: ds)) with
      | .ok d _ => .ok d
      | .exc x _ => .exc x
      | .bad => .bad) else .bad
    | none => .bad) else .bad
  | _ => .bad
theorem tabGo_mem {c : Str} {φ : List D → FR} : ∀ {tab : List (Str × (List D → FR))}, tabGo tab c = some φ → (c, φ) ∈ tab
  | [], h => by cases h
  | (c', φ') :: tab, h => by
    simp only [tabGo] at h
    split at h
    · rename_i e; cases h; rw [e]; exact List.mem_cons_self
    · exact List.mem_cons_of_mem _ (tabGo_mem h)
theorem tab_pe {tab : List (Str × (List D → FR))} {ex : Expr} {n : Nat} (hne : tab ≠ []) (h : ∀ c φ, (c, φ) ∈ tab → PE X ex (tE (gd X) W (mthC c m n φ So Ss))) : PE X ex (tE (gd X) W (sMeth m tab n So Ss)) := by
  have key : ∀ tab : List (Str × (List D → FR)), (∀ c φ, (c, φ) ∈ tab → PE X ex (tE (gd X) W (mthC c m n φ So Ss))) → PE X ex fun σ H Q => ∃ c φ, (c, φ) ∈ tab ∧ tE (gd X) W (mthC c m n φ So Ss) σ H Q := by
    intro tab
    induction tab with
    | nil => intro _; exact ⟨fun _ _ _ _ _ _ ⟨_, _, q, _⟩ => by simp at q⟩
    | cons x tab ih =>
      intro h
      obtain ⟨c, φ⟩ := x
      refine PE.imp (PE.or (h c φ List.mem_cons_self) (ih fun c' φ' q => h c' φ' (List.mem_cons_of_mem _ q))) fun σ H Q ⟨c', φ', q, t⟩ => ?_
      rcases List.mem_cons.mp q with e | q
      · cases e; exact .inl t
      · exact .inr ⟨c', φ', q, t⟩
  refine PE.imp (key tab h) fun σ H Q ⟨P, ρ, A, st, q⟩ => ?_
  unfold sMeth at q
  cases hs : So ρ with
  | bad => simp only [hs, Res.bind] at q
  | exc x =>
    simp only [hs, Res.bind] at q
    cases tab with
    | nil => exact absurd rfl hne
    | cons y tab =>
      obtain ⟨c, φ⟩ := y
      refine ⟨c, φ, List.mem_cons_self, P, ρ, A, st, ?_⟩
      simp only [mthC, hs, Res.bind]
      exact q
  | ok d =>
    simp only [hs, Res.bind] at q
    cases d with
    | obj ob c ns ds =>
      simp only at q
      by_cases hm : m ∉ ns
      · rw [if_pos hm] at q
        cases ht : tabGo tab c with
        | none => rw [ht] at q; exact q.elim
        | some φ =>
          rw [ht] at q
          refine ⟨c, φ, tabGo_mem ht, P, ρ, A, st, ?_⟩
          simp only [mthC, hs, Res.bind, hm, not_false_eq_true, and_self, if_true]
          exact q
      · rw [if_neg hm] at q; exact q.elim
    | _ => exact (show False from q).elim
theorem TabOk.get {P : Program} {w : World} {K : PySem.W.Frag} {mg : Str → Option Value} {base : Heap} {m : Str} {k : Nat} {ps : List Str} {tab : List (Str × (List D → FR))} (h : TabOk P w K mg base m k ps tab) {c : Str} {φ : List D → FR} (q : (c, φ) ∈ tab) : ∃ j, j ≤ k ∧ MthOk P w K mg base c m j ps [] φ := by
  induction h with
  | nil => simp at q
  | cons F hj t ih =>
    rcases List.mem_cons.mp q with e | q
    · cases e; exact ⟨_, hj, F⟩
    · exact ih q
theorem e_meth {tab : List (Str × (List D → FR))} {pl : Sem Bool} {j : Nat} (T : TabOk X.prog X.w X.K X.mg X.base m j ps tab) (hr : GRoom k X.A) (tk : Takes X W) (ho : EOk X W o So) (ha : AOk X W (e :: es) Ss) (hj : j ≤ k := by decide) (hne : tab ≠ [] := by exact List.cons_ne_nil _ _)
    (hst : starEach (e :: es) X.env = (false, eval e X.env) :: starEach es X.env := by rfl) (hpl : (backTo pos (starEach es X.env)).any (·.1) = false := by rfl)
    (ht : eval (.Call (.Attribute o m apos) (e :: es) [] pos) X.env = (do
      let ov ← eval o X.env
      standAt apos.atName
      let (f, first) ← holding [ov] (getMethod ov m pl)
      callWith pos f first (backTo pos (starEach (e :: es) X.env)) (backToKw pos (keywordEach [] X.env))) := by rfl) : EOk X W (.Call (.Attribute o m apos) (e :: es) [] pos) (sMeth m tab ps.length So Ss) :=
  ⟨tab_pe hne fun c φ q => by
    obtain ⟨i, hi, F⟩ := T.get q
    exact mth_one F (hr.mono (Nat.le_trans hi hj)) tk ho ha hst hpl ht⟩
theorem e_meth0 {tab : List (Str × (List D → FR))} {pl : Sem Bool} {j : Nat} (T : TabOk X.prog X.w X.K X.mg X.base m j ps tab) (hr : GRoom k X.A) (tk : Takes X W) (ho : EOk X W o So) (hj : j ≤ k := by decide) (hne : tab ≠ [] := by exact List.cons_ne_nil _ _)
    (ht : eval (.Call (.Attribute o m apos) [] [] pos) X.env = (do
      let ov ← eval o X.env
      standAt apos.atName
      let (f, first) ← holding [ov] (getMethod ov m pl)
      callWith pos f first (backTo pos (starEach [] X.env)) (backToKw pos (keywordEach [] X.env))) := by rfl) : EOk X W (.Call (.Attribute o m apos) [] [] pos) (sMeth m tab ps.length So sNil) :=
  ⟨tab_pe hne fun c φ q => by
    obtain ⟨i, hi, F⟩ := T.get q
    exact mth_one0 F (hr.mono (Nat.le_trans hi hj)) tk ho ht⟩
theorem run_makeG {pins : List (Addr × Obj)} {σ : Sl} {H : Hp} {s : Shared} {Q : VK} {us : List Value} {vs : List V} {f C : Addr} {fd : FuncData} {sp : Sp} (M : Mk X.K C f) (F : FnG X.prog X.w X.K X.mg X.base k f fd ps sp) (hr : GRoom (k + 1) X.A) (hb : Binds X.K fd ps [])
    (tk : Takes X W) (I : Inv X pins σ H s) (r : Vals vs us)
    (h : ∀ x dx, H x = none → H dx = none → dx ≠ x → sp (.ref x :: vs) (upd (upd H dx (.own x)) x (.ins C dx [])) (fun v H2 => v = .non ∧ Q (.ref x) H2) fun cls d H' => W cls d σ H') :
    wpAny (model X.prog X.w) X.A (call (.ref C) us) (EP X pins σ Q) X.xe s := by
  have hq := h (s.heap.objs.size + 1) s.heap.objs.size (I.hok.fresh (Nat.le_succ _)) (I.hok.fresh (Nat.le_refl _)) (Nat.ne_of_lt (Nat.lt_succ_self _))
  have I2 := Inv.made (C := C) I
  have r2 : Vals (V.ref (s.heap.objs.size + 1) :: vs) (Value.ref (s.heap.objs.size + 1) :: us) := .cons rfl r
  have hl : (Value.ref (s.heap.objs.size + 1) :: us).length = ps.length := by
    have e := r2.length
    rw [F.len _ _ _ _ hq] at e
    exact e.symm
  have bt := hb { s with heap := (s.heap.push PySem.W.emptyDict).push (PySem.W.instObj C s.heap.objs.size) } (Value.ref (s.heap.objs.size + 1) :: us) I2.kIn (by rw [List.append_nil]; exact hl)
  rw [List.append_nil] at bt
  refine wpAny_call (make_map (f := f) I.kIn M.makes M.init (beq_iff_eq.mp M.fn) (codeAny_mono (F.run _ X.stack _ _ ⟨Value.ref (s.heap.objs.size + 1) :: us, []⟩ (Value.ref (s.heap.objs.size + 1) :: us) _ _ _ ⟨hr.r.make C us [], hr.g⟩
    (I2.env0.make C us []) bt r2 hq) fun r s' hq' => ?_))
  cases r with
  | error e => exact tk e s' (XE.of_call I2 (fun _ _ _ z => z) hq')
  | ok fl =>
    cases fl with
    | ret u =>
      obtain ⟨v, H', I3, rv, ev, q3⟩ := I2.after hq'
      subst ev
      exact ⟨rv, ⟨V.ref (s.heap.objs.size + 1), H', I3, rfl, q3⟩⟩
    | next => exact False.elim hq'
    | brk => exact False.elim hq'
    | cont => exact False.elim hq'
def mkRes (c : Str) (n : Nat) (φ : List D → FR) (ds : List D) : Res D := if ds.length + 1 = n then (match φ (.obj true c [] [] :: frzL ds) with
  | .ok .non [o] => .ok o
  | .exc x _ => .exc x
  | _ => .bad) else .bad
def sMake (c : Str) (n : Nat) (φ : List D → FR) (S : Env → Res (List D)) : Env → Res D := fun ρ => (S ρ).bind fun ds => mkRes c n φ ds
theorem make_sp {C : Addr} {σ : Sl} {H P H1 P1 : Hp} {Q : VK} {vs : List V} {ds : List D} {B : List Addr} (hm : X.mg c = some (.ref C)) (u : Under P H) (mk : Marks (gd X) P) (e : Ext P H P1 H1 []) (r : RelL (gd X) P1 H1 vs ds B) (f : Fresh P1 H B)
    (h : match mkRes c ps.length φ ds with
      | .ok d => Post (gd X) P H Q d
      | .exc x => PostX (gd X) P H W σ x
      | .bad => False) : ∀ x dx, H1 x = none → H1 dx = none → dx ≠ x → spF (gd X) ps.length [0] φ (.ref x :: vs) (upd (upd H1 dx (.own x)) x (.ins C dx [])) (fun v H2 => v = .non ∧ Q (.ref x) H2) fun cls d H' => W cls d σ H' := by
  intro x dx hx hdx ne
  unfold mkRes at h
  by_cases hn : ds.length + 1 = ps.length
  · rw [if_pos hn] at h
    obtain ⟨e2, sm⟩ := give_ext0 u e f
    have x1 : (upd H1 dx (HO.own x)) x = none := by rw [upd_ne ne.symm]; exact hx
    have e3 := ext_own (o := .own x) e2.und hdx
    have e4 := ext_own (o := .ins C dx []) e3.und x1
    have e34 := e3.trans e2.und e4
    have e5 := e2.trans u e34
    have Px : give P1 H1 B x = none := e2.und.free hx
    have hxH : H x = none := e2.free u hx
    have rl : RelL (gd X) (give P1 H1 B) (upd (upd H1 dx (.own x)) x (.ins C dx [])) (.ref x :: vs) (.obj true c [] [] :: frzL ds) ([x] ++ []) :=
      .cons (.objO (ns := []) (vs := []) (A := []) hm (by rw [upd_same]; rfl) rfl .nil) (r.frz sm fun b hb => give_in hb)
    refine ⟨by simp [r.length, hn], give P1 H1 B, _, [x], e34.und, mk.mono e2.same, rl, by simp, fun b hb => by simp at hb; subst hb; exact Px, ?_⟩
    cases hφ : φ (.obj true c [] [] :: frzL ds) with
    | bad => rw [hφ] at h; exact h.elim
    | exc z os =>
      rw [hφ] at h
      intro cls d P' H' C' e6 xr rc nd fr
      refine h cls d P' H' ?_ xr
      exact Ext.transA u e5 e6 fun b hb => by simp at hb; subst hb; exact .inl hxH
    | ok dd os =>
      rw [hφ] at h
      intro v P' H' B' C' e6 rv rc nd fr
      cases dd with
      | non =>
        cases os with
        | nil => exact h.elim
        | cons o os =>
          cases os with
          | cons _ _ => exact h.elim
          | nil =>
            cases rv
            refine ⟨rfl, ?_⟩
            have e7 : Ext P H P' H' [] := Ext.transA u e5 e6 fun b hb => by simp at hb; subst hb; exact .inl hxH
            have rc' : RelL (gd X) P' H' [V.ref x] [o] C' := rc
            cases rc' with
            | @cons v0 d0 A0 vs0 ds0 B0 r0 t0 =>
              cases t0
              rw [List.append_nil] at nd fr
              refine h (.ref x) P' H' A0 e7 r0 ⟨by simpa using nd, fun b hb => ?_⟩
              obtain ⟨q1, q2⟩ := fr b (by simpa using hb)
              refine ⟨?_, q1⟩
              rcases q2 with z | z
              · exact e5.free u z
              · simp at z; subst z; exact hxH
      | _ => exact (show False from h).elim
  · rw [if_neg hn] at h; exact h.elim
theorem e_make {x : Str} {p : Pos} {j : Nat} (M : MkOk X.prog X.w X.K X.mg X.base x j ps φ) (hr : GRoom k X.A) (tk : Takes X W) (ha : AOk X W (e :: es) Ss) (hj : j + 1 ≤ k := by decide) (hg : Gl X x := by rfl) (hdb : (x == ("__debug__" : Str)) = false := by decide)
    (he : starEach (e :: es) X.env = (false, eval e X.env) :: starEach es X.env := by rfl) (hpl : (backTo pos (starEach es X.env)).any (·.1) = false := by rfl) : EOk X W (.Call (.Name x p) (e :: es) [] pos) (sMake x ps.length φ Ss) := by
  obtain ⟨f, fd, C, F, hb, hm, M⟩ := M.ex
  refine ⟨⟨fun pins s σ H Q I ⟨P, ρ, A, st, h⟩ => ?_⟩⟩
  have h1 : tL (gd X) W Ss σ H fun vs H1 => ∀ x dx, H1 x = none → H1 dx = none → dx ≠ x → spF (gd X) ps.length [0] φ (.ref x :: vs) (upd (upd H1 dx (.own x)) x (.ins C dx [])) (fun v H2 => v = .non ∧ Q (.ref x) H2) fun cls d H' => W cls d σ H' := by
    refine ⟨P, ρ, A, st, ?_⟩
    unfold sMake at h
    cases hs : Ss ρ with
    | bad => simp only [hs, Res.bind] at h
    | exc x => simp only [hs, Res.bind] at h; exact h
    | ok ds =>
      simp only [hs, Res.bind] at h
      intro vs P1 H1 B e1 r f
      exact make_sp hm st.und st.mks e1 r f h
  refine wpAny_Call_Name_kw (ld_glob I hg hm ?_ hdb)
  refine PySem.W.callWith_K (h₀ := X.base) I.ok.mod.kin M.kp (thn (ha.pa.run pos pins s σ H _ I h1) fun us s1 ⟨vs, H1, I1, r, q⟩ => ⟨I1.kIn, ?_⟩) he hpl
  exact run_makeG M F (hr.mono hj) hb tk I1 r q
theorem e_make0 {x : Str} {p : Pos} {j : Nat} (M : MkOk X.prog X.w X.K X.mg X.base x j ps φ) (hr : GRoom k X.A) (tk : Takes X W) (hj : j + 1 ≤ k := by decide) (hg : Gl X x := by rfl) (hdb : (x == ("__debug__" : Str)) = false := by decide) :
    EOk X W (.Call (.Name x p) [] [] pos) (sMake x ps.length φ sNil) := by
  obtain ⟨f, fd, C, F, hb, hm, M⟩ := M.ex
  refine ⟨⟨fun pins s σ H Q I ⟨P, ρ, A, st, h⟩ => ?_⟩⟩
  refine wpAny_Call_Name_kw (ld_glob I hg hm ?_ hdb)
  exact PySem.W.callWith_K0 I.kIn M.kp (run_makeG (us := []) M F (hr.mono hj) hb tk I .nil (make_sp hm st.und st.mks (Ext.refl st.und) .nil Fresh.nil h))
end
end RL
namespace RL
open PySem PySem.Spec PyProof.Rows L2
structure XcOk (K : PySem.W.Frag) (mg : Str → Option Value) (c : Str) : Prop where
  ex : ∃ C, mg c = some (.ref C) ∧ PySem.W.excIn K C [.type "ValueError", .type "Exception", .type "BaseException", .type "object"] "ValueError.__new__" = true ∧ PySem.W.keepIn K (.ref C) = true ∧ PySem.W.subIn K (.ref C) (.type "BaseException") = some true ∧ PySem.W.typeIn K (.ref C) = some (.type "type")
section
variable {X : Cx} {W : WX} {L : List Nat} {pos : Pos}
def sRaise (c : Str) : Env → SRes := fun ρ => .exc (.exn c [] []) ρ
theorem s_raise {x m : Str} {j : Nat} {p p2 p3 : Pos} (T : XcOk X.K X.mg x) (hc : X.calm = true) (tk : Takes X W) (hg : Gl X x := by rfl) (hdb : (x == ("__debug__" : Str)) = false := by decide) : SOk X W L (.Raise (some (.Call (.Name x p) [.Constant (.str m) j p2] [] p3)) none pos) (sRaise x) := by
  obtain ⟨C, gC, q, kC, h1, h2⟩ := T.ex
  exact ⟨PS.imp (ps_raise hc tk (pmk_own PySem.F.excBase_ValueError q gC kC (raises_own h1 h2) hg hdb)) fun D σ H ⟨P, ρ, A, st, h⟩ => h (.ref C) none σ P H A (.refl st) ⟨x, [], [], C, rfl, gC, rfl, .inl ⟨rfl, rfl, rfl⟩⟩⟩
def subGo (subs : List (Str × Bool)) (c : Str) : Option Bool := match subs with
  | [] => none
  | (c', b) :: r => if c = c' then some b else subGo r c
structure SubOk (K : PySem.W.Frag) (mg : Str → Option Value) (h : Str) (subs : List (Str × Bool)) : Prop where
  ex : ∃ C, mg h = some (.ref C) ∧ ∀ c b, (c, b) ∈ subs → ∃ D, mg c = some (.ref D) ∧ PySem.W.exmOne K (.ref D) (.ref C) = some b
theorem subGo_mem {c : Str} {b : Bool} : ∀ {subs : List (Str × Bool)}, subGo subs c = some b → (c, b) ∈ subs
  | [], h => by cases h
  | (c', b') :: r, h => by
    simp only [subGo] at h
    split at h
    · rename_i e; cases h; rw [e]; exact List.mem_cons_self
    · exact List.mem_cons_of_mem _ (subGo_mem h)
theorem After.wipe {G : Gd} {P H P' H' : Hp} {σ σ' : Sl} {ρ' : Env} {A A' : List Addr} {i : Nat} (a : After G P H σ A L P' H' σ' ρ' A') (hi : i ∉ L) : ∃ A2, After G P H σ A L P' H' (σ'.set i none) (ρ'.set i none) A2 ∧ ∀ b ∈ A2, b ∈ A' := by
  obtain ⟨C, c1, c2, c3⟩ := a.st.env.drop (i := i)
  refine ⟨C, ⟨a.ext, ⟨a.st.und, ?_, c2 a.st.nd, fun b hb => a.st.off b (c1 b hb), a.st.mks⟩, fun b hb => a.sub b (c1 b hb), by simpa using a.len, fun j hj => ?_⟩, c1⟩
  · by_cases h : i < ρ'.length
    · exact c3.anyAt (by simp [h])
    · rw [List.set_eq_of_length_le (by have := a.st.env.length; omega)]
      exact c3
  · have : i ≠ j := fun e => hi (e ▸ hj)
    rw [List.getElem?_set_ne this]
    exact a.pin j hj
def hdGo (ρ : Env) (x : D) (c : Str) : List (List (Str × Bool) × (Env → SRes)) → SRes
  | [] => .exc x ρ
  | (subs, T) :: r => match subGo subs c with
    | some true => (match T ρ with
      | .exc _ _ => .bad
      | z => z)
    | some false => hdGo ρ x c r
    | none => .bad
def sTryH (hs : List (List (Str × Bool) × (Env → SRes))) (S : Env → SRes) : Env → SRes := fun ρ => match S ρ with
  | .exc (.exn c ns ds) ρ1 => hdGo ρ1 (.exn c ns ds) c hs
  | .exc _ _ => .bad
  | r => r
inductive HOk (X : Cx) (L : List Nat) : List ExceptHandler → List (List (Str × Bool) × (Env → SRes)) → List (Value × (Addr → Value → Option Addr → TS)) → Prop
  | nil : HOk X L [] [] []
  | cons {x : Str} {subs : List (Str × Bool)} {T : Env → SRes} {b₀ : Stmt} {suite : List Stmt} {np pos' : Pos} {hds : List ExceptHandler} {C : Addr} {l : List (List (Str × Bool) × (Env → SRes))} {l' : List (Value × (Addr → Value → Option Addr → TS))} (hg : Gl X x) (hdb : (x == ("__debug__" : Str)) = false) (gC : X.mg x = some (.ref C)) (hsub : ∀ c b, (c, b) ∈ subs → ∃ D, X.mg c = some (.ref D) ∧ PySem.W.exmOne X.K (.ref D) (.ref C) = some b)
      (hsu : ∀ (a : Addr) (pn : List (Addr × Obj)), SsOk (X.suite a pn) WF L (b₀ :: suite) T) (r : HOk X L hds l l') : HOk X L (.ExceptHandler (some (.Name x np)) none (b₀ :: suite) pos' :: hds) ((subs, T) :: l) ((.ref C, fun _ _ _ => tS (gd X) WF L T) :: l')
theorem HOk.hds {hds : List ExceptHandler} {l : List (List (Str × Bool) × (Env → SRes))} {l' : List (Value × (Addr → Value → Option Addr → TS))} (h : HOk X L hds l l') : HdsOk X hds l' := by
  induction h with
  | nil => exact .nil
  | cons hg hdb gC hsub hsu r ih => exact .cons ⟨hg, hdb, .inl gC⟩ (fun a oe cls d pn _ _ => (hsu a _).pss) ih
inductive HsOk (X : Cx) (L : List Nat) : List ExceptHandler → List (List (Str × Bool) × (Env → SRes)) → Prop
  | nil : HsOk X L [] []
  | cons {x : Str} {subs : List (Str × Bool)} {T : Env → SRes} {b₀ : Stmt} {suite : List Stmt} {np pos' : Pos} {hds : List ExceptHandler} {l : List (List (Str × Bool) × (Env → SRes))} (hsub : SubOk X.K X.mg x subs) (hsu : ∀ (a : Addr) (pn : List (Addr × Obj)), SsOk (X.suite a pn) WF L (b₀ :: suite) T) (r : HsOk X L hds l) (hg : Gl X x := by rfl) (hdb : (x == ("__debug__" : Str)) = false := by decide) :
      HsOk X L (.ExceptHandler (some (.Name x np)) none (b₀ :: suite) pos' :: hds) ((subs, T) :: l)
theorem HsOk.h {hds : List ExceptHandler} {l : List (List (Str × Bool) × (Env → SRes))} (h : HsOk X L hds l) : ∃ l', HOk X L hds l l' := by
  induction h with
  | nil => exact ⟨[], .nil⟩
  | cons hsub hsu r hg hdb ih =>
    obtain ⟨l', q⟩ := ih
    obtain ⟨C, gC, hC⟩ := hsub.ex
    exact ⟨_, .cons hg hdb gC hC hsu q⟩
theorem s_tryH {body : List Stmt} {h₀ : ExceptHandler} {hds : List ExceptHandler} {l : List (List (Str × Bool) × (Env → SRes))} {S : Env → SRes} (hs : X.stack = X.env :: X.outer) (hf : X.env.frame = some X.env.locals) (tk : Takes X W)
    (hb : ∀ (W : WX) (pn : List (Addr × Obj)) (xe : Value → Shared → Prop), Takes (X.tr pn xe) W → PassesOwn (model X.prog X.w) X.A X.env xe → SsOk (X.tr pn xe) W L body S) (hh : HsOk X L (h₀ :: hds) l) : SOk X W L (.Try body (h₀ :: hds) [] [] pos) (sTryH l S) := by
  obtain ⟨l', hq⟩ := hh.h
  clear hh
  refine ⟨PS.imp (ps_try_many (tb := fun W => tS (gd X) W L S) hs hf tk (fun W pn xe t p => (hb W pn xe t p).pss) hq.hds) fun Dn σ H h0 => ?_⟩
  obtain ⟨P, ρ, A, st, h⟩ := h0
  refine ⟨P, ρ, A, st, ?_⟩
  unfold sTryH at h
  cases hS : S ρ with
  | bad => simp only [hS] at h
  | nx ρ1 => simp only [hS] at h; exact h
  | rt d ρ1 => simp only [hS] at h; exact h
  | bk ρ1 => simp only [hS] at h; exact h
  | exc z ρ1 =>
    simp only [hS] at h
    intro cls dx σ1 P1 H1 A1 a xr
    obtain ⟨c, ns, ds, Cc, rfl, gc, rfl, xf⟩ := xr
    simp only at h
    clear hS
    revert h
    generalize h₀ :: hds = hd at hq
    intro h
    clear hb
    induction hq with
    | nil => simp only [hdGo] at h; exact h (.ref Cc) dx σ1 P1 H1 A1 a ⟨c, ns, ds, Cc, rfl, gc, rfl, xf⟩
    | @cons x0 subs T b₀ suite np pos0 hds C l l1 hg0 hdb gC hsub hsu r ih =>
      simp only [hdGo] at h
      cases hg : subGo subs c with
      | none => rw [hg] at h; exact h.elim
      | some b =>
        rw [hg] at h
        obtain ⟨D', gD, em⟩ := hsub c b (subGo_mem hg)
        have : D' = Cc := by
          have := gD.symm.trans gc
          cases this; rfl
        subst this
        refine ⟨b, em, fun hbt ad hn => ?_, fun hbf => ?_⟩
        · subst hbt
          simp only at h
          refine ⟨P1, ρ1, A1, a.st, ?_⟩
          cases hT : T ρ1 with
          | bad => rw [hT] at h; exact h.elim
          | exc y ρ2 => rw [hT] at h; exact h.elim
          | nx ρ2 => rw [hT] at h; exact fun σ' P' H' A' b3 => h _ _ _ _ (a.trans st.und b3)
          | bk ρ2 => rw [hT] at h; exact fun σ' P' H' A' b3 => h _ _ _ _ (a.trans st.und b3)
          | rt d ρ2 => rw [hT] at h; exact fun v σ' P' H' A' B b3 q1 q2 q3 => h v _ _ _ _ B (a.trans st.und b3) q1 q2 (a.newB st.und q3)
        · subst hbf
          simp only at h
          exact ih h
end
end RL
namespace RL
open PySem PySem.Spec PyProof.Rows L2
structure IsObj (K : PySem.W.Frag) (mg : Str → Option Value) (h : Str) (tab : List (Str × Bool)) : Prop where
  ex : ∃ D, mg h = some (.ref D) ∧ ∀ c b, (c, b) ∈ tab → ∃ C, mg c = some (.ref C) ∧ Cls K C ∧ PySem.W.findIn K (.ref C) "__class__" = some (some (.builtin "object.__class__")) ∧
    PySem.W.specialIn K (.builtin "object.__class__") "__get__" = some (some (.builtin "getset_descriptor.__get__")) ∧ PySem.W.takesIn K (.builtin "object.__class__") = some true ∧ PySem.W.mroIn K C (.type "object") = some true ∧ PySem.W.kitOne K (.ref C) (.ref D) = some b
structure IsExc (K : PySem.W.Frag) (mg : Str → Option Value) (u : Value) (tab : List (Str × Bool)) : Prop where
  ex : ∀ c b, (c, b) ∈ tab → ∃ C, mg c = some (.ref C) ∧ ExcC K C ∧ PySem.W.kitOne K (.ref C) u = some b
def fIsObj (tab : List (Str × Bool)) : D → Option D
  | .obj _ c _ _ => (subGo tab c).map .bl
  | _ => none
section
variable {X : Cx} {W : WX} {e : Expr} {S : Env → Res D} {x : Str} {p p2 pos : Pos} {tab : List (Str × Bool)}
theorem Under.ext {P H : Hp} (u : Under P H) {a : Addr} {φ : Heap → Prop} (h : P a = some (.ext φ)) : H a = some (.ext φ) := by
  rcases u _ _ h with z | ⟨_, _, z, _⟩ | ⟨_, _, z, _⟩
  · exact z
  · cases z
  · cases z
theorem e_isObj (T : IsObj X.K X.mg x tab) (hm : X.mg "isinstance" = none) (he : BOk X W e S) (hg : Gl X "isinstance" := by rfl) (hg2 : Gl X x := by rfl) (hdb : (x == ("__debug__" : Str)) = false := by decide)
    (hs : starEach [e, .Name x p2] X.env = (false, eval e X.env) :: starEach [.Name x p2] X.env := by rfl) (hpl : (backTo pos (starEach [.Name x p2] X.env)).any (·.1) = false := by rfl) :
    EOk X W (.Call (.Name "isinstance" p) [e, .Name x p2] [] pos) (s1 (fIsObj tab) S) := by
  obtain ⟨Dc, gD, hT⟩ := T.ex
  exact ⟨PE.imp (pe_callB call_isi hg hm (by decide +kernel) (pa_cons he.pe (pa_cons (pe_glob (v := .ref Dc) hg2 gD rfl hdb) pa_nil) hs) (by decide) (by decide) hs hpl) fun σ H Q ⟨P, ρ, A, st, h⟩ => ⟨P, ρ, A, st, by
    unfold s1 at h
    cases hsS : S ρ with
    | bad => simp only [hsS, Res.bind] at h
    | exc x => simp only [hsS, Res.bind] at h; exact h
    | ok d =>
      simp only [hsS, Res.bind] at h
      intro v P1 H1 B e1 r o
      cases d with
      | obj ob c ns ds =>
        simp only [fIsObj] at h
        cases ht : subGo tab c with
        | none => simp only [ht, Option.map, opt] at h
        | some b =>
          simp only [ht, Option.map, opt] at h
          obtain ⟨C, gC, cl, ha, hn, htk, hm', hk⟩ := hT c b (subGo_mem ht)
          obtain ⟨a, C', dx, vs, B0, rfl, mg, hH, hl, rl, sub⟩ := obj_of e1.und r
          have : C' = C := by
            have := mg.symm.trans gC
            cases this; rfl
          subst this
          exact ⟨.ref a, .ref Dc, .ref C', .ref Dc, b, rfl, .own Dc, .base (.ins hH cl ha hn htk hm'), hk, h _ P1 H1 [] e1 (.bl b) Fresh.nil⟩
      | _ => simp [fIsObj, opt] at h⟩⟩
end
end RL
namespace RL
open PySem PySem.Spec PyProof.Rows L2
def putKs (k : Key) (ks : List Key) : List Key := match ixOf ks k with
  | some _ => ks
  | none => ks ++ [k]
def putVs {α : Type} (k : Key) (d : α) (ks : List Key) (ds : List α) : List α := match ixOf ks k with
  | some j => ds.set j d
  | none => ds ++ [d]
theorem ixOf_none {ks : List Key} {k : Key} : ixOf ks k = none ↔ k ∉ ks := by
  induction ks with
  | nil => simp [ixOf]
  | cons g ks ih =>
    simp only [ixOf, List.mem_cons, not_or]
    by_cases e : g = k
    · simp [e]
    · simp only [e, if_false, Option.map_eq_none_iff, ih]
      exact ⟨fun h => ⟨fun z => e z.symm, h⟩, fun h => h.2⟩
theorem ixOf_some {ks : List Key} {k : Key} {j : Nat} (h : ixOf ks k = some j) : j < ks.length ∧ ks[j]? = some k := by
  induction ks generalizing j with
  | nil => simp [ixOf] at h
  | cons g ks ih =>
    simp only [ixOf] at h
    by_cases e : g = k
    · simp [e] at h
      subst h
      simp [e]
    · simp only [e, if_false, Option.map_eq_some_iff] at h
      obtain ⟨m, h, rfl⟩ := h
      obtain ⟨h1, h2⟩ := ih h
      exact ⟨by simpa using h1, by simpa using h2⟩
theorem putKs_nodup {k : Key} {ks : List Key} (h : ks.Nodup) : (putKs k ks).Nodup := by
  unfold putKs
  cases e : ixOf ks k with
  | some j => exact h
  | none =>
    have := ixOf_none.mp e
    exact List.nodup_append.mpr ⟨h, by simp, fun a ha b hb z => by simp at hb; subst hb; subst z; exact this ha⟩
theorem putKs_len {k : Key} {ks : List Key} {α : Type} {d : α} {ds : List α} (h : ks.length = ds.length) : (putKs k ks).length = (putVs k d ks ds).length := by
  unfold putKs putVs
  cases e : ixOf ks k <;> simp [h]
theorem zip_any {k : Key} : ∀ {ks : List Key} {vs : List V}, ks.length = vs.length → ((ks.zip vs).any fun kv => decide (kv.1 = k)) = (ixOf ks k).isSome
  | [], _, _ => by simp [ixOf]
  | _ :: _, [], h => by simp at h
  | g :: ks, w :: vs, h => by
    rw [List.zip_cons_cons, List.any_cons, zip_any (by simpa using h)]
    simp only [ixOf]
    by_cases e : g = k
    · simp [e]
    · simp [e]
theorem zip_same {k : Key} {v : V} : ∀ (ks : List Key) (vs : List V), k ∉ ks → (ks.zip vs).map (fun kv => if kv.1 = k then (kv.1, v) else kv) = ks.zip vs
  | [], _, _ => rfl
  | _ :: _, [], _ => rfl
  | a :: ks, b :: vs, hn => by
    simp only [List.mem_cons, not_or] at hn
    rw [List.zip_cons_cons, List.map_cons, if_neg fun z => hn.1 z.symm, zip_same ks vs hn.2]
theorem zip_map {k : Key} {v : V} : ∀ {ks : List Key} {vs : List V} {j : Nat}, ks.Nodup → ks.length = vs.length → ixOf ks k = some j → (ks.zip vs).map (fun kv => if kv.1 = k then (kv.1, v) else kv) = ks.zip (vs.set j v)
  | [], _, _, _, _, h => by simp [ixOf] at h
  | _ :: _, [], _, _, h, _ => by simp at h
  | g :: ks, w :: vs, j, nd, hl, h => by
    obtain ⟨n1, n2⟩ := List.nodup_cons.mp nd
    simp only [ixOf] at h
    by_cases e : g = k
    · simp only [e, if_true, Option.some.injEq] at h
      subst h
      subst e
      rw [List.zip_cons_cons, List.map_cons, if_pos rfl, zip_same ks vs n1]
      rfl
    · simp only [e, if_false, Option.map_eq_some_iff] at h
      obtain ⟨m, h, rfl⟩ := h
      rw [List.zip_cons_cons, List.map_cons, if_neg e, zip_map n2 (by simpa using hl) h]
      rfl
theorem putK_zip {k : Key} {v : V} {ks : List Key} {vs : List V} (nd : ks.Nodup) (hl : ks.length = vs.length) : putK (ks.zip vs) k v = (putKs k ks).zip (putVs k v ks vs) := by
  unfold putK putKs putVs
  rw [zip_any hl]
  cases h : ixOf ks k with
  | some j => simp only [Option.isSome_some, if_true]; exact zip_map nd hl h
  | none =>
    simp only [Option.isSome_none, Bool.false_eq_true, if_false]
    rw [List.zip_append hl]
    rfl
theorem RelL.putV {G : Gd} {P H : Hp} {k : Key} {v : V} {d : D} {Bv : List Addr} (r : Rel G P H v d Bv) {ks : List Key} {vs : List V} {ds : List D} {B : List Addr} (t : RelL G P H vs ds B) (hl : ks.length = vs.length) :
    ∃ B1, RelL G P H (putVs k v ks vs) (putVs k d ks ds) B1 ∧ ∃ R, B1.Perm (Bv ++ R) ∧ R.Sublist B := by
  unfold putVs
  cases e : ixOf ks k with
  | none => exact ⟨B ++ Bv, t.snoc r, B, List.perm_append_comm, List.Sublist.refl _⟩
  | some j =>
    simp only
    obtain ⟨h1, h2⟩ := ixOf_some e
    have hj : j < ds.length := by rw [← t.length, ← hl]; exact h1
    clear e h1 h2 hl
    induction t using RelL.rec (motive_1 := fun _ _ _ _ => True) generalizing j with
    | nil => simp at hj
    | @cons v0 d0 A0 vs ds B0 r0 t _ ih =>
      cases j with
      | zero => exact ⟨Bv ++ B0, .cons r t, B0, .refl _, List.sublist_append_right _ _⟩
      | succ j =>
        obtain ⟨B1, q, R, p, s⟩ := ih j (by simpa using hj)
        exact ⟨A0 ++ B1, .cons r0 q, A0 ++ R, (p.append_left A0).trans (List.perm_append_comm_assoc ..), List.Sublist.append_left s A0⟩
    | _ => trivial
section
variable {X : Cx} {W : WX} {L : List Nat} {e a b o : Expr} {pos apos cpos : Pos} {Sa Sb S : Env → Res D} {Pl : Env → Res Plc}
def putD (k : D) (d : D) : D → Option D
  | .dct true ks ds => (keyOf k).bind fun k => if ks.length < sizeLine ∧ ks.Nodup then some (.dct true (putKs k ks) (putVs k d ks ds)) else none
  | _ => none
def sPutD (fz : Bool) (Pl : Env → Res Plc) (Sk Se : Env → Res D) : Env → SRes := fun ρ => match Se ρ with
  | .ok d => (match Pl ρ with
    | .ok p => (match Sk ρ with
      | .ok k => (match putD k (if fz then d.frz else d) p.at_ with
        | some d' => .nx (p.set d')
        | none => .bad)
      | .exc x => .exc x ρ
      | .bad => .bad)
    | .exc x => .exc x ρ
    | .bad => .bad)
  | .exc x => .exc x ρ
  | .bad => .bad
theorem key_rel {P H : Hp} {v : V} {d : D} {B : List Addr} {k : Key} (r : Rel (gd X) P H v d B) (h : keyOf d = some k) : v = kV k := by
  cases r <;> simp [keyOf] at h <;> subst h <;> rfl
def mkD : List D → List Key → List D → Option D
  | [], ks, ds => some (.dct true ks ds)
  | .tup [k, d] :: r, ks, ds => (keyOf k).bind fun k => mkD r (putKs k ks) (putVs k d ks ds)
  | _, _, _ => none
def fDict : D → Option D
  | .lst _ ps => mkD ps [] []
  | _ => none
theorem mk_rel {P H : Hp} (un : Under P H) : ∀ {xs : List V} {ps : List D} {A : List Addr} {ks : List Key} {vs : List V} {ds : List D} {B : List Addr} {z : D}, RelL (gd X) P H xs ps A → RelL (gd X) P H vs ds B → ks.Nodup → ks.length = vs.length → mkD ps ks ds = some z →
    ∃ (as : List Addr) (kvs : List (Key × V)) (ks' : List Key) (vs' : List V) (ds' : List D) (C : List Addr), xs = as.map V.ref ∧ Paired (fun p (kv : Key × V) => SqT X.K H p [kV kv.1, kv.2]) as kvs ∧ mergeK (ks.zip vs) kvs = ks'.zip vs' ∧ ks'.length = vs'.length ∧ z = .dct true ks' ds' ∧ RelL (gd X) P H vs' ds' C ∧ (∀ b ∈ C, b ∈ A ∨ b ∈ B) ∧ ((A ++ B).Nodup → C.Nodup)
  | _, _, _, ks, vs, ds, B, z, .nil, t, nd, hl, h => by
    simp only [mkD, Option.some.injEq] at h
    subst h
    exact ⟨[], [], ks, vs, ds, B, rfl, .nil, rfl, hl, rfl, t, fun b hb => .inr hb, fun n => n⟩
  | _, _, _, ks, vs, ds, B, z, .cons (v := x) (d := p) (A := A1) (vs := xs) (ds := ps) (B := B1) r r', t, nd, hl, h => by
    cases r with
    | @tup a ws ds0 A0 hP rp =>
      cases rp with
      | nil => simp [mkD] at h
      | @cons wk dk Ak ws1 ds1 B2 rk rp1 =>
        cases rp1 with
        | nil => simp [mkD] at h
        | @cons wv dv Av ws2 ds2 B3 rv rp2 =>
          cases rp2 with
          | cons _ _ => simp [mkD] at h
          | nil =>
            simp only [mkD] at h
            cases hk : keyOf dk with
            | none => rw [hk] at h; cases h
            | some k =>
              rw [hk] at h
              simp only [Option.bind_some] at h
              obtain ⟨Bq, q1, R1, p1, s1⟩ := RelL.putV (k := k) rv t hl
              obtain ⟨as, kvs, ks', vs', ds', C, h1, h2, h3, h4, h5, h6, h7, h8⟩ := mk_rel un r' q1 (putKs_nodup nd) (putKs_len hl) h
              have ek := key_rel rk hk
              subst ek
              refine ⟨a :: as, (k, wv) :: kvs, ks', vs', ds', C, by rw [h1]; rfl, .cons (un.seqT hP) h2, ?_, h4, h5, h6, ?_, ?_⟩
              · show mergeK (putK (ks.zip vs) k wv) kvs = _
                rw [putK_zip nd hl]
                exact h3
              · intro b hb
                rcases h7 b hb with z | z
                · exact .inl (List.mem_append_right _ z)
                · rcases List.mem_append.mp (p1.subset z) with z | z
                  · exact .inl (List.mem_append_left _ (List.mem_append_right _ (by simpa using z)))
                  · exact .inr (s1.subset z)
              · intro nn
                obtain ⟨m1, m2, m3⟩ := List.nodup_append.mp nn
                obtain ⟨m4, m5, m6⟩ := List.nodup_append.mp m1
                rw [List.append_nil] at m4 m6
                obtain ⟨_, m7, _⟩ := List.nodup_append.mp m4
                refine h8 (List.nodup_append.mpr ⟨m5, p1.nodup_iff.mpr (List.nodup_append.mpr ⟨m7, m2.sublist s1, fun x hx y hy => m3 x (by simp [hx]) y (s1.subset hy)⟩), fun x hx y hy => ?_⟩)
                rcases List.mem_append.mp (p1.subset hy) with z | z
                · exact fun w => m6 y (List.mem_append_right _ z) x hx w.symm
                · exact m3 x (List.mem_append_right _ hx) y (s1.subset z)
    | _ => simp [mkD] at h
theorem e_dict {p : Pos} (hc : X.calm = true) (hm : X.mg "dict" = none) (he : EOk X W e S) (hg : Gl X "dict" := by rfl) (hs : starEach [e] X.env = (false, eval e X.env) :: starEach [] X.env := by rfl) (hpl : (backTo pos (starEach [] X.env)).any (·.1) = false := by rfl) :
    EOk X W (.Call (.Name "dict" p) [e] [] pos) (s1 fDict S) := ⟨PE.imp (pe_callTy (call_dictP hc) hg hm (by decide +kernel) (pa_cons he.pe pa_nil hs) (by decide) (by decide) hs hpl) fun σ H Q ⟨P, ρ, A, st, h⟩ => ⟨P, ρ, A, st, by
  unfold s1 at h
  cases hsS : S ρ with
  | bad => simp only [hsS, Res.bind] at h
  | exc x => simp only [hsS, Res.bind] at h; exact h
  | ok d =>
    simp only [hsS, Res.bind] at h
    intro v P1 H1 B e1 r fr
    cases hf : fDict d with
    | none => simp only [hf, opt] at h
    | some z =>
      simp only [hf, opt] at h
      have go : ∀ {a : Addr} {xs : List V} {ps : List D} {B0 : List Addr}, v = .ref a → H1 a = some (.lst xs) → RelL (gd X) P1 H1 xs ps B0 → (∀ b ∈ B0, b ∈ B) → B0.Nodup → mkD ps [] [] = some z →
          ∃ (a : Addr) (ps : List Addr) (kvs : List (Key × V)), [v] = [V.ref a] ∧ SqL X.K H1 a (ps.map V.ref) ∧ Paired (fun p (kv : Key × V) => SqT X.K H1 p [kV kv.1, kv.2]) ps kvs ∧ ∀ p, H1 p = none → Q (.ref p) (upd H1 p (.dK (mergeK [] kvs))) := by
        intro a xs ps B0 ev hH rl sub nd hmk
        obtain ⟨as, kvs, ks', vs', ds', C, h1, h2, h3, h4, h5, h6, h7, h8⟩ := mk_rel e1.und rl (ks := []) (vs := []) .nil List.nodup_nil rfl hmk
        rw [List.append_nil] at h8
        subst h1
        subst h5
        refine ⟨a, as, kvs, by rw [ev], SqL.of hH, h2, fun p hp => ?_⟩
        have h3' : mergeK [] kvs = ks'.zip vs' := h3
        rw [h3']
        have o1 : ∀ b ∈ C, b ∈ B := fun b hb => sub b ((h7 b hb).resolve_right (by simp))
        have nC : C.Nodup := h8 nd
        have np : p ∉ C := fun z => by
          obtain ⟨w, q⟩ := h6.at p z
          rw [hp] at q; cases q
        have e2 := ext_own (o := .dK (ks'.zip vs')) e1.und hp
        have off : ∀ b ∈ C, P1 b = none := fun b hb => (fr.2 b (o1 b hb)).2
        refine h _ _ _ (p :: C) (e1.trans st.und e2) (.dctO upd_same h4 (h6.ext e2 off)) ⟨List.nodup_cons.mpr ⟨np, nC⟩, fun b hb => ?_⟩
        rcases List.mem_cons.mp hb with rfl | hb
        · exact ⟨e1.free st.und hp, e1.und.free hp⟩
        · exact fr.2 b (o1 b hb)
      cases r with
      | @lstF a xs ps hP rl => exact go rfl (e1.und.lst hP) rl (fun b hb => by simp at hb) List.nodup_nil (by simpa [fDict] using hf)
      | @lstO a xs ps B0 hH rl => exact go rfl hH rl (fun b hb => List.mem_cons_of_mem _ hb) (List.nodup_cons.mp fr.1).2 (by simpa [fDict] using hf)
      | _ => simp [fDict] at hf⟩⟩
end
end RL
namespace RL
open PySem PySem.Spec PyProof.Rows L2
section
variable {X : Cx} {W : WX} {L : List Nat} {e a b o : Expr} {pos apos cpos : Pos} {Sa Sb S : Env → Res D} {Pl : Env → Res Plc} {k : Nat}
def fIn : D → D → Option Bool
  | .str x, .str z => if x.cps.size = 1 then some (decide (x.cps.getD 0 0 ∈ z.cps.toList)) else none
  | d, .lst o ds => match d.flat?, ds.mapM D.flat? with
    | some v, some vs => some (inV v vs)
    | _, _ => if d.fit = true ∧ (D.lst o ds).fit = true then some (ds.any fun z => PyData.eqv z.py d.py) else none
  | d, .tup ds => match d.flat?, ds.mapM D.flat? with
    | some v, some vs => some (inV v vs)
    | _, _ => none
  | d, .dct _ ks _ => (keyOf d).map fun k => (ixOf ks k).isSome
  | _, _ => none
def oIn : D → D → Option D := fun x y => (fIn x y).map .bl
def oNotIn : D → D → Option D := fun x y => (fIn x y).map fun b => .bl (!b)
theorem flat_rel {G : Gd} {P H : Hp} {v w : V} {d : D} {B : List Addr} (r : Rel G P H v d B) (h : d.flat? = some w) : v = w ∧ flatV v = true := by
  cases r <;> simp only [D.flat?, Option.some.injEq, reduceCtorEq] at h <;> subst h <;> exact ⟨rfl, rfl⟩
theorem flats_rel {G : Gd} {P H : Hp} : ∀ {vs ws : List V} {ds : List D} {B : List Addr}, RelL G P H vs ds B → ds.mapM D.flat? = some ws → vs = ws ∧ vs.all flatV = true
  | _, ws, _, _, .nil, h => by
    have h' : ws = [] := by simpa using h.symm
    subst h'
    exact ⟨rfl, rfl⟩
  | _, ws, _, _, .cons (d := d) (ds := ds) r t, h => by
    rw [List.mapM_cons] at h
    cases hd : d.flat? with
    | none => rw [hd] at h; cases h
    | some u =>
      rw [hd] at h
      cases ht : ds.mapM D.flat? with
      | none => rw [ht] at h; cases h
      | some us =>
        rw [ht] at h
        obtain rfl : u :: us = ws := Option.some.inj h
        obtain ⟨h1, h2⟩ := flat_rel r hd
        obtain ⟨h3, h4⟩ := flats_rel t ht
        subst h1 h3
        exact ⟨rfl, by simp [h2, h4]⟩
theorem OpR.or' {X : Cx} {f : Value → Value → Sem Value} {r r' : R2} (h : OpR X f r) (h' : OpR X f r') : OpR X f fun x y H Q => r x y H Q ∨ r' x y H Q := by
  intro pins s σ H x y v u Q I rx ry q
  rcases q with q | q
  · exact h pins s σ H x y v u Q I rx ry q
  · exact h' pins s σ H x y v u Q I rx ry q
theorem OpR.imp {X : Cx} {f : Value → Value → Sem Value} {r r' : R2} (h : OpR X f r) (i : ∀ x y H Q, r' x y H Q → r x y H Q) : OpR X f r' := fun pins s σ H x y v u Q I rx ry q => h pins s σ H x y v u Q I rx ry (i _ _ _ _ q)
def rInDict (neg : Bool) : R2 := fun x y H Q => ∃ a o, y = .ref a ∧ DGet H a x o ∧ Q (.bl (if neg then !o.isSome else o.isSome)) H
theorem op_inDict (hu : X.A.units + 1 < cLine) : OpR X (compareOp .In) (rInDict false) := by
  intro pins s σ H x y v u Q I rx ry h
  obtain ⟨a, o, rfl, g, q⟩ := h
  cases ry
  exact d_in hu I g rx fun s' I' => ⟨.bl o.isSome, H, I', rfl, q⟩
theorem op_notInDict (hu : X.A.units + 1 < cLine) : OpR X (compareOp .NotIn) (rInDict true) := by
  intro pins s σ H x y v u Q I rx ry h
  obtain ⟨a, o, rfl, g, q⟩ := h
  cases ry
  exact d_notIn hu I g rx fun s' I' => ⟨.bl (!o.isSome), H, I', rfl, q⟩
theorem one_sign {x : Str} (h : x.cps.size = 1) : x = ⟨#[x.cps.getD 0 0]⟩ := by
  obtain ⟨⟨l⟩⟩ := x
  cases l with
  | nil => simp at h
  | cons c l =>
    cases l with
    | nil => rfl
    | cons _ _ => simp at h
theorem in_ways (neg : Bool) {x y : V} {H : Hp} {Q : VK} {f : D → D → Option D} (hf : ∀ x y, f x y = (fIn x y).map fun b => .bl (if neg then !b else b)) (h : rD (gd X) f x y H Q) :
    (∃ (c : Nat) (z : Str), x = .str ⟨#[c]⟩ ∧ y = .str z ∧ Q (.bl (if neg then !decide (c ∈ z.cps.toList) else decide (c ∈ z.cps.toList))) H) ∨ rIn X.K neg x y H Q ∨ rInDict neg x y H Q ∨
      ∃ d ds, Dp X.K H x d ∧ Dp X.K H y (.list ds) ∧ SeqAt.shaped d = true ∧ SeqAt.shaped (.list ds) = true ∧ Q (.bl (if neg then !(ds.any fun z => PyData.eqv z d) else ds.any fun z => PyData.eqv z d)) H := by
  obtain ⟨P, dx, dy, Bx, By, un, r1, r2, o1, o2, h⟩ := h
  rw [hf] at h
  cases hb : fIn dx dy with
  | none => rw [hb] at h; exact h.elim
  | some b =>
    rw [hb] at h
    have q : Q (.bl (if neg then !b else b)) H := post_val un h (.bl _)
    have seq : ∀ {vs : List V} {ds : List D} {B : List Addr} {w : V} {ws : List V} {a : Addr}, y = .ref a → (SqL X.K H a vs ∨ SqT X.K H a vs) → RelL (gd X) P H vs ds B → dx.flat? = some w → ds.mapM D.flat? = some ws → b = inV w ws → rIn X.K neg x y H Q := by
      intro vs ds B w ws a ey hs rl hw hws eb
      obtain ⟨h1, h2⟩ := flat_rel r1 hw
      obtain ⟨h3, h4⟩ := flats_rel rl hws
      subst h1 h3 eb
      exact ⟨a, vs, ey, hs, h2, h4, q⟩
    cases dy with
    | str z =>
      cases r2
      cases dx with
      | str x' =>
        cases r1
        simp only [fIn] at hb
        split at hb
        · rename_i c
          cases hb
          exact .inl ⟨_, z, congrArg V.str (one_sign c), rfl, q⟩
        · cases hb
      | _ => simp [fIn] at hb
    | lst ob ds =>
      have hb' : (match dx.flat?, ds.mapM D.flat? with
        | some v, some vs => some (inV v vs)
        | _, _ => if dx.fit = true ∧ (D.lst ob ds).fit = true then some (ds.any fun z => PyData.eqv z.py dx.py) else none) = some b := by
        cases dx <;> exact hb
      obtain ⟨a, vs, B0, rfl, hq, rl⟩ : ∃ a vs B0, y = .ref a ∧ SqL X.K H a vs ∧ RelL (gd X) P H vs ds B0 := by
        cases r2 with
        | lstF hP rl => exact ⟨_, _, _, rfl, SqL.of (un.lst hP), rl⟩
        | lstO hH rl => exact ⟨_, _, _, rfl, SqL.of hH, rl⟩
      have deep : (if dx.fit = true ∧ (D.lst ob ds).fit = true then some (ds.any fun z => PyData.eqv z.py dx.py) else none) = some b → ∃ d es, Dp X.K H x d ∧ Dp X.K H (.ref a) (.list es) ∧ SeqAt.shaped d = true ∧ SeqAt.shaped (.list es) = true ∧ Q (.bl (if neg then !(es.any fun z => PyData.eqv z d) else es.any fun z => PyData.eqv z d)) H := by
        intro hd
        split at hd
        · rename_i c
          cases hd
          have r2' := r2.dp un c.2
          rw [D.py] at r2'
          have s2 := fit_ok c.2
          rw [D.py] at s2
          refine ⟨dx.py, pyL ds, r1.dp un c.1, r2', fit_ok c.1, s2, ?_⟩
          have e : (pyL ds).any (fun z => PyData.eqv z dx.py) = ds.any fun z => PyData.eqv z.py dx.py := by
            rw [pyL_eq, List.any_map]
            rfl
          rw [e]
          exact q
        · cases hd
      cases hw : dx.flat? with
      | none => rw [hw] at hb'; exact .inr (.inr (.inr (deep hb')))
      | some w =>
        cases hws : ds.mapM D.flat? with
        | none => rw [hw, hws] at hb'; exact .inr (.inr (.inr (deep hb')))
        | some ws =>
          rw [hw, hws] at hb'
          exact .inr (.inl (seq rfl (.inl hq) rl hw hws (Option.some.inj hb').symm))
    | tup ds =>
      have hb' : (match dx.flat?, ds.mapM D.flat? with
        | some v, some vs => some (inV v vs)
        | _, _ => none) = some b := by
        cases dx <;> exact hb
      cases r2 with
      | tup hP rl =>
        cases hw : dx.flat? with
        | none => rw [hw] at hb'; cases hb'
        | some w =>
          cases hws : ds.mapM D.flat? with
          | none => rw [hw, hws] at hb'; cases hb'
          | some ws =>
            rw [hw, hws] at hb'
            exact .inr (.inl (seq rfl (.inr (un.seqT hP)) rl hw hws (Option.some.inj hb').symm))
    | dct ob ks ds =>
      have hb' : ((keyOf dx).map fun k => (ixOf ks k).isSome) = some b := by cases dx <;> exact hb
      cases hk : keyOf dx with
      | none => rw [hk] at hb'; cases hb'
      | some k =>
        rw [hk] at hb'
        obtain ⟨d, vs, B, rfl, hdk, hl, rl, hB⟩ := dget_of un r2
        have hval : (valV (ks.zip vs) k).isSome = b := by
          rw [← Option.some.inj hb']
          show (valV (ks.zip vs) k).isSome = (ixOf ks k).isSome
          rw [← zip_any hl, valV_any]
        refine .inr (.inr (.inl ⟨d, valV (ks.zip vs) k, rfl, .inl ⟨_, k, hdk, key_rel r1 hk, rfl⟩, ?_⟩))
        rw [hval]
        exact q
    | _ => cases dx <;> simp [fIn] at hb
theorem o_in (hr : Room k X.A) : OpR X (compareOp .In) (rD (gd X) oIn) :=
  OpR.imp (OpR.or' op_in_sign (OpR.or' op_in_seq (OpR.or' (op_inDict (hu_of hr)) (op_inD (by have := hr.un; omega))))) fun x y H Q h => by
    have := in_ways false (f := oIn) (fun _ _ => rfl) h
    simpa only [Bool.false_eq_true, if_false, rInD] using this
theorem o_notin (hr : Room k X.A) : OpR X (compareOp .NotIn) (rD (gd X) oNotIn) :=
  OpR.imp (OpR.or' op_notIn_sign (OpR.or' op_notIn_seq (OpR.or' (op_notInDict (hu_of hr)) (op_notInD (by have := hr.un; omega))))) fun x y H Q h => by
    have := in_ways true (f := oNotIn) (fun _ _ => rfl) h
    simpa only [if_true, rNotInD] using this
def keyD : Key → D
  | .inl i => .int i
  | .inr x => .str x
theorem keyD_rel {G : Gd} {P H : Hp} (k : Key) : Rel G P H (kV k) (keyD k) [] := by
  cases k with
  | inl i => exact .int i
  | inr x => exact .str x
def valsD : D → Option (List D)
  | .dct _ _ ds => if cleanL ds = true then some ds else none
  | _ => none
def keysD : D → Option (List D)
  | .dct _ ks ds => if cleanL ds = true then some (ks.map keyD) else none
  | _ => none
def itemsL : List Key → List D → List D
  | k :: ks, d :: ds => .tup [keyD k, d] :: itemsL ks ds
  | _, _ => []
def itemsD : D → Option (List D)
  | .dct _ ks ds => if cleanL ds = true ∧ ks.length = ds.length then some (itemsL ks ds) else none
  | _ => none
theorem itemsL_len : ∀ {ks : List Key} {ds : List D}, ks.length = ds.length → (itemsL ks ds).length = ds.length
  | [], [], _ => rfl
  | [], _ :: _, h => by simp at h
  | _ :: _, [], h => by simp at h
  | k :: ks, d :: ds, h => by simp only [itemsL, List.length_cons, itemsL_len (show ks.length = ds.length by simpa using h)]
theorem itemsL_get : ∀ {ks : List Key} {ds : List D} {i : Nat} {k : Key} {d : D}, ks[i]? = some k → ds[i]? = some d → (itemsL ks ds)[i]? = some (.tup [keyD k, d])
  | [], _, _, _, _, h, _ => by simp at h
  | _ :: _, [], _, _, _, _, h => by simp at h
  | k :: ks, d :: ds, 0, _, _, h, h2 => by simp at h h2; subst h h2; rfl
  | k :: ks, d :: ds, i + 1, _, _, h, h2 => by
    simp only [itemsL, List.getElem?_cons_succ]
    exact itemsL_get (by simpa using h) (by simpa using h2)
def StayD (G : Gd) (P H : Hp) (a : Addr) (o : Obj) (ks : List Key) (vs : List V) (ds : List D) : Prop := P a = some (.dK (ks.zip vs)) ∧ ks.length = vs.length ∧ RelL G P H vs ds [] ∧ H a = some (.frz o (.dK (ks.zip vs)))
theorem StayD.ext {G : Gd} {P H P' H' : Hp} {A : List Addr} {a : Addr} {o : Obj} {ks : List Key} {vs : List V} {ds : List D} (e : Ext P H P' H' A) (h : StayD G P H a o ks vs ds) : StayD G P' H' a o ks vs ds :=
  ⟨e.same _ _ h.1, h.2.1, h.2.2.1.mono e.same (by simp), e.lck _ _ _ h.2.2.2⟩
theorem zip_get {ks : List Key} {vs : List V} {i : Nat} {k : Key} {v : V} (h : (ks.zip vs)[i]? = some (k, v)) : ks[i]? = some k ∧ vs[i]? = some v := List.getElem?_zip_eq_some.mp h
theorem it_keys {G : Gd} {a : Addr} {ob : Obj} {ks : List Key} {vs : List V} {ds : List D} : ItOk G false (Itk a ob (ks.zip vs)) (ks.map keyD) fun P H => StayD G P H a ob ks vs ds where
  stay := fun P H P' H' A _ _ e h => h.ext e
  go := fun i P H u h hi => by
    rw [List.length_map] at hi
    have hl : (ks.zip vs).length = ks.length := by rw [List.length_zip, h.2.1, Nat.min_self]
    refine ⟨⟨h.2.2.2, by omega⟩, fun x H' hy => ?_⟩
    obtain ⟨e, k, v, y, ex⟩ := hy
    subst e ex
    refine ⟨P, keyD k, Ext.refl u, ?_, keyD_rel k⟩
    rw [List.getElem?_map, (zip_get y).1]
    rfl
  stop := fun i P H u h hi => ⟨h.2.2.2, by rw [List.length_zip, h.2.1, Nat.min_self, ← h.2.1]; simpa using hi⟩
theorem it_items {G : Gd} {a : Addr} {ob : Obj} {ks : List Key} {vs : List V} {ds : List D} (hkd : ks.length = ds.length) : ItOk G false (Iti a ob (ks.zip vs)) (itemsL ks ds) fun P H => StayD G P H a ob ks vs ds where
  stay := fun P H P' H' A _ _ e h => h.ext e
  go := fun i P H u h hi => by
    rw [itemsL_len hkd] at hi
    obtain ⟨v, d, h1, h2, h3⟩ := h.2.2.1.at? hi
    have hl : (ks.zip vs).length = ds.length := by rw [List.length_zip, h.2.1, Nat.min_self, h.2.2.1.length]
    refine ⟨⟨h.2.2.2, by omega⟩, fun x H' hy => ?_⟩
    obtain ⟨T, k, w, y, ex, hT, eH⟩ := hy
    subst ex eH
    obtain ⟨q1, q2⟩ := zip_get y
    rw [h1] at q2
    cases q2
    have ex := ext_fix (o := .tup [kV k, v]) u hT
    exact ⟨_, _, ex, itemsL_get q1 h2, .tup (SqT.of upd_same) (.cons (A := []) (B := []) (keyD_rel k) (.cons (A := []) (B := []) (h3.mono ex.same (by simp)) .nil))⟩
  stop := fun i P H u h hi => ⟨h.2.2.2, by rw [List.length_zip, h.2.1, Nat.min_self, h.2.2.1.length, ← itemsL_len hkd]; exact hi⟩
theorem pe_lk {t : TE} (h : PE X e t) : PE X e fun σ H Q => t σ H fun x H1 => ∃ d kvs, x = .ref d ∧ ((∃ o, H1 d = some (.frz o (.dK kvs)) ∧ Q x H1) ∨ (H1 d = some (.dK kvs) ∧ ∀ od, Q x (upd H1 d (.frz od (.dK kvs))))) := by
  refine ⟨fun pins s σ H Q I hw => ?_⟩
  refine thn (h.run pins s σ H _ I hw) fun v s1 ⟨x, H1, I1, r, d, kvs, ex, q⟩ => ?_
  rcases q with ⟨o, hd, q⟩ | ⟨hd, q⟩
  · exact ⟨x, H1, I1, r, q⟩
  · obtain ⟨od, I2⟩ := I1.lock hd trivial
    exact ⟨x, _, I2, r, q od⟩
theorem dict_src {G : Gd} {P H P1 H1 : Hp} {B : List Addr} {v : V} {ob : Bool} {ks : List Key} {ds : List D} (un : Under P H) (e : Ext P H P1 H1 []) (r : Rel G P1 H1 v (.dct ob ks ds) B) (f : Fresh P1 H B) (hc : cleanL ds = true) :
    ∃ a vs P2, v = .ref a ∧ P2 a = some (.dK (ks.zip vs)) ∧ ks.length = vs.length ∧ RelL G P2 H1 vs ds [] ∧ Ext P H P2 H1 [] ∧ (H1 a = some (.dK (ks.zip vs)) ∨ ∃ o, H1 a = some (.frz o (.dK (ks.zip vs)))) := by
  cases r with
  | @dctF a ks vs ds hP hl rl =>
    refine ⟨a, vs, P1, rfl, hP, hl, rl, e, ?_⟩
    rcases e.und _ _ hP with z | ⟨o, _, _, z⟩ | ⟨_, _, z, _⟩
    · exact .inl z
    · exact .inr ⟨o, z⟩
    · cases z
  | @dctO a ks vs ds A0 hH hl rl =>
    have o : ∀ b ∈ [a], P1 b = none := fun b hb => by
      have hb : b = a := by simpa using hb
      subst hb
      exact (f.2 b List.mem_cons_self).2
    have g := give_ext (A := [a]) e.und o
    refine ⟨a, vs, give P1 H1 [a], rfl, by rw [give_in (by simp)]; exact hH, hl, (rl.nil_of hc).mono g.same (by simp), ⟨e.same.trans g.same, g.und, e.keep, e.lck, fun b w q => ?_⟩, .inl hH⟩
    rcases g.new b w q with z | z | z
    · exact e.new b w z
    · exact .inr (.inl (e.free un z))
    · have hb : b = a := by simpa using z
      subst hb
      exact .inr (.inl (f.2 b List.mem_cons_self).1)
theorem ext_lock {P H : Hp} {a : Addr} {kvs : List (Key × V)} (un : Under P H) (hP : P a = some (.dK kvs)) (hH : H a = some (.dK kvs)) (od : Obj) : Ext P H P (upd H a (.frz od (.dK kvs))) [] where
  same := Same.refl P
  und := fun b u q => by
    by_cases hb : b = a
    · subst hb
      rw [hP] at q
      cases q
      exact .inr (.inl ⟨od, kvs, rfl, upd_same⟩)
    · rw [upd_ne hb]; exact un b u q
  keep := fun b o q n _ => by
    have : b ≠ a := fun z => by rw [z, hP] at n; cases n
    rw [upd_ne this]; exact q
  lck := fun b o u q => by
    have : b ≠ a := fun z => by rw [z, hH] at q; cases q
    rw [upd_ne this]; exact q
  new := fun b o q => .inl q
theorem dict_walk {bor : Bool} {S : Env → Res D} {f : D → Option (List D)} {mk : Addr → Obj → List (Key × V) → It} (hf : ∀ d ds, f d = some ds → ∃ ob ks es, d = .dct ob ks es ∧ cleanL es = true ∧ ∀ G a o vs, ItOk G false (mk a o (ks.zip vs)) ds fun P H => StayD G P H a o ks vs es) {σ : Sl} {H : Hp} {R : It → Hp → Prop} (h : tI (gd X) W bor (fun ρ => (S ρ).bind fun d => opt (f d)) σ H R) :
    (tE (gd X) W S σ H fun x H1 => ∃ d kvs, x = .ref d ∧ ((∃ o, H1 d = some (.frz o (.dK kvs)) ∧ (fun (x : V) (H1 : Hp) => ∃ d o kvs, x = .ref d ∧ H1 d = some (.frz o (.dK kvs)) ∧ R (mk d o kvs) H1) x H1) ∨ (H1 d = some (.dK kvs) ∧ ∀ od, (fun (x : V) (H1 : Hp) => ∃ d o kvs, x = .ref d ∧ H1 d = some (.frz o (.dK kvs)) ∧ R (mk d o kvs) H1) x (upd H1 d (.frz od (.dK kvs)))))) := by
  obtain ⟨P, ρ, A, st, h⟩ := h
  refine ⟨P, ρ, A, st, ?_⟩
  cases hs : S ρ with
  | bad => simp only [hs, Res.bind] at h
  | exc x => simp only [hs, Res.bind] at h; exact h
  | ok d =>
    simp only [hs, Res.bind] at h
    cases hd : f d with
    | none => simp only [hd, opt] at h
    | some ds =>
      simp only [hd, opt] at h
      obtain ⟨ob, ks, es, rfl, hc, it⟩ := hf d ds hd
      intro v P1 H1 B e1 r fr
      obtain ⟨a, vs, P2, rfl, hP, hl, rl, e2, hH⟩ := dict_src st.und e1 r fr hc
      refine ⟨a, ks.zip vs, rfl, ?_⟩
      rcases hH with hH | ⟨o, hH⟩
      · refine .inr ⟨hH, fun od => ⟨a, od, ks.zip vs, rfl, upd_same, ?_⟩⟩
        have e3 := ext_lock e2.und hP hH od
        exact h (mk a od (ks.zip vs)) P2 _ (fun P H => StayD (gd X) P H a od ks vs es) (it (gd X) a od vs).any ⟨hP, hl, rl.mono (Same.refl _) (by simp), upd_same⟩ (e2.trans st.und e3)
      · exact .inl ⟨o, hH, a, o, ks.zip vs, rfl, hH, h (mk a o (ks.zip vs)) P2 _ (fun P H => StayD (gd X) P H a o ks vs es) (it (gd X) a o vs).any ⟨hP, hl, rl, hH⟩ e2⟩
def sVals (S : Env → Res D) : Env → Res (List D) := fun ρ => (S ρ).bind fun d => opt (valsD d)
def sItems (S : Env → Res D) : Env → Res (List D) := fun ρ => (S ρ).bind fun d => opt (itemsD d)
def sKeys (S : Env → Res D) : Env → Res (List D) := fun ρ => (S ρ).bind fun d => opt (keysD d)
theorem i_items {bor : Bool} {elts : List Expr} {kk : Nat} {tpos : Pos} (he : EOk X W e S) (hbase : attributeBase e "items" X.env (eval e X.env) = eval e X.env := by rfl) (hline : (apos.endLine == cpos.line) = true := by rfl) : IOk X W bor (.Tuple elts kk tpos) (.Call (.Attribute e "items" apos) [] [] cpos) (sItems S) :=
  ⟨PI.imp (pi_items (pe_lk he.pe) hbase hline) fun σ H R h => dict_walk (mk := Iti) (fun d ds hd => by
    unfold itemsD at hd
    split at hd
    · split at hd
      · rename_i c
        cases hd
        exact ⟨_, _, _, rfl, c.1, fun G a o vs => it_items c.2⟩
      · cases hd
    · cases hd) h⟩
theorem i_keys {bor : Bool} {tg : Expr} (he : EOk X W e S) : IOk X W bor tg e (sKeys S) :=
  ⟨PI.imp (pi_keys (pe_lk he.pe)) fun σ H R h => by
    have q := dict_walk (mk := Itk) (f := keysD) (S := S) (W := W) (fun d ds hd => by
      unfold keysD at hd
      split at hd
      · split at hd
        · rename_i c
          cases hd
          exact ⟨_, _, _, rfl, c, fun G a o vs => it_keys⟩
        · cases hd
      · cases hd) h
    obtain ⟨P, ρ, A, st, q⟩ := q
    refine ⟨P, ρ, A, st, ?_⟩
    cases hs : S ρ with
    | bad => rw [hs] at q; exact q
    | exc x => rw [hs] at q; exact q
    | ok d =>
      rw [hs] at q
      intro v P1 H1 B e1 r f
      obtain ⟨dd, kvs, ex, qq⟩ := q v P1 H1 B e1 r f
      refine ⟨dd, kvs, ex, ?_⟩
      rcases qq with ⟨o, h1, d', o', kvs', x', h2, hR⟩ | ⟨h1, hq⟩
      · exact .inl ⟨o, h1, d', o', x', .inl ⟨kvs', h2, hR⟩⟩
      · refine .inr ⟨h1, fun od => ?_⟩
        obtain ⟨d', o', kvs', x', h2, hR⟩ := hq od
        exact ⟨d', o', x', .inl ⟨kvs', h2, hR⟩⟩⟩
theorem call_listRd (hc : X.calm = true) : CallR X (.type "list") (fun xs H Q => ∃ p kvs, xs = [.ref p] ∧ Rd H p (.dK kvs) ∧ ∀ q, H q = none → Q (.ref q) (upd H q (.lst (kvs.map fun kv => kV kv.1)))) := by
  intro pins s σ H xs us Q I r h
  obtain ⟨p, kvs, e, hk, q⟩ := h
  subst e
  obtain ⟨u, eu, rx⟩ := vals1 r
  subst eu
  obtain rfl : u = Value.ref p := rx
  obtain ⟨z, lo, vs, rk, hd⟩ := (show ObjOk X.prog X.w H s.heap p (.dK kvs) from hk.ok I.hok)
  obtain ⟨ep, hat⟩ := hd.dictAt
  have hl : kvs.length = vs.length := Paired.length rk
  refine PySem.W.kdl_call (PySem.W.kdl_dict (knd := mixKind X.prog X.w) (kvs := vs) (ep := ep) lo) (I.ok.hd hc) hat (by rw [← hl]; exact z) fun h' tk acc' c' hkeep hS hacc => ?_
  refine ⟨.ref s.heap.objs.size, upd H s.heap.objs.size (.lst (kvs.map fun kv => kV kv.1)), I.laid hkeep (Nat.le_refl _) (show ObjOk X.prog X.w _ _ _ (.lst (kvs.map fun kv => kV kv.1)) from ⟨?_, acc'.toList, c', ?_, ?_⟩), rfl, q _ (I.hok.fresh (Nat.le_refl _))⟩
  · rw [List.length_map]; exact z
  · have el : acc'.toList.length = acc'.size := by simp
    refine vals_of_at (by rw [List.length_map, el, hacc.1, hl]) fun j x w h1 h2 => ?_
    obtain ⟨k, y, hky, hi⟩ := hacc.2 j w (by rw [← Array.getElem?_toList]; exact h2)
    have e1 : (kvs.map (·.1))[j]? = some k := by
      rw [KV.keys rk, List.getElem?_map, hky] <;> rfl
    have e2 : (kvs.map fun kv => kV kv.1)[j]? = some (kV k) := by
      have e3 : (kvs.map fun kv => kV kv.1) = (kvs.map (·.1)).map kV := by rw [List.map_map] <;> rfl
      rw [e3, List.getElem?_map, e1] <;> rfl
    rw [e2] at h1
    cases h1
    exact keyIs_rel hi
  · rw [Array.toArray_toList]; exact hS
theorem keysD_rel {G : Gd} {P H : Hp} : ∀ (ks : List Key), RelL G P H (ks.map kV) (ks.map keyD) []
  | [] => .nil
  | k :: ks => .cons (A := []) (B := []) (keyD_rel k) (keysD_rel ks)
def fListX : D → Option D
  | .dct _ ks ds => if ks.length = ds.length then some (.lst true (ks.map keyD)) else none
  | d => fList d
theorem fListX_else {d : D} (h : ∀ o ks ds, d ≠ .dct o ks ds) : fListX d = fList d := by
  cases d <;> first | rfl | exact absurd rfl (h _ _ _)
theorem c_listX (hc : X.calm = true) : CallR X (.type "list") (rC (gd X) (on1 fListX)) := CallR.imp (CallR.or c_list (call_listRd hc)) fun xs H Q h => by
  obtain ⟨v, P, d, B, z, rfl, un, r, o, hf, q⟩ := rC1 h
  cases d with
  | dct ob ks ds =>
    simp only [fListX] at hf
    split at hf
    · rename_i c
      cases hf
      obtain ⟨p, vs, B0, rfl, hdk, hl, rl, hB⟩ := dget_of un r
      refine .inr ⟨p, _, rfl, hdk, fun p' hp => ?_⟩
      have e : (ks.zip vs).map (fun kv => kV kv.1) = ks.map kV := by
        rw [show (fun kv : Key × V => kV kv.1) = kV ∘ Prod.fst from rfl, ← List.map_map, List.map_fst_zip (by omega)]
      rw [e]
      exact post_lst un q (keysD_rel ks) hp
    · cases hf
  | _ =>
    left
    rw [fListX_else (by intro _ _ _ z; cases z)] at hf
    have hf' := hf
    exact ⟨P, _, B ++ [], un, .cons r .nil, by simpa using o, by simp only [on1, hf']; exact q⟩
theorem call_lenRd : CallR X (.builtin "len") (fun xs H Q => ∃ a kvs, xs = [V.ref a] ∧ Rd H a (.dK kvs) ∧ Q (.int kvs.length) H) := by
  intro pins s σ H xs us Q I r h
  obtain ⟨a, kvs, rfl, ha, q⟩ := h
  obtain ⟨u, rfl, ru⟩ := vals1 r
  cases ru
  exact d_len I ha fun t s' I' => ⟨.int kvs.length, H, I', ⟨t, rfl⟩, q⟩
def fLenX : D → Option D
  | .dct _ ks ds => if ks.length = ds.length then some (.int ks.length) else none
  | d => fLen d
theorem fLenX_else {d : D} (h : ∀ o ks ds, d ≠ .dct o ks ds) : fLenX d = fLen d := by
  cases d <;> first | rfl | exact absurd rfl (h _ _ _)
theorem c_lenX : CallR X (.builtin "len") (rC (gd X) (on1 fLenX)) := CallR.imp (CallR.or c_len call_lenRd) fun xs H Q h => by
  obtain ⟨v, P, d, B, z, rfl, un, r, o, hf, q⟩ := rC1 h
  cases d with
  | dct ob ks ds =>
    simp only [fLenX] at hf
    split at hf
    · rename_i c
      cases hf
      obtain ⟨p, vs, B0, rfl, hdk, hl, rl, hB⟩ := dget_of un r
      refine .inr ⟨p, _, rfl, hdk, ?_⟩
      rw [List.length_zip, hl, Nat.min_self, ← hl]
      exact post_val un q (.int _)
    · cases hf
  | _ =>
    left
    rw [fLenX_else (by intro _ _ _ z; cases z)] at hf
    have hf' := hf
    exact ⟨P, _, B ++ [], un, .cons r .nil, by simpa using o, by simp only [on1, hf']; exact q⟩
end
end RL
namespace RL
open PySem PySem.Spec PyProof.Rows L2
section
variable {X : Cx} {W : WX} {L : List Nat} {e a b o f : Expr} {pos apos cpos : Pos} {Sa Sb S So : Env → Res D} {Pl : Env → Res Plc} {k : Nat}
def rA (G : Gd) (f : D → Option D) : V → Hp → VK → Prop := fun y H Q => ∃ P dy By, Under P H ∧ Rel G P H y dy By ∧ (∀ b ∈ By, P b = none) ∧ match f dy with
  | some d => Post G P H Q d
  | none => False
def sM1 (f : Str → D → Option D) (So Sa : Env → Res D) : Env → Res D := fun ρ => (So ρ).bind fun x => match x with
  | .str a => (Sa ρ).bind fun y => opt (f a y)
  | _ => .bad
theorem m1_of {f : Str → D → Option D} {r : V → List V → Hp → VK → Prop} (hr : ∀ a y H Q, rA (gd X) (f a) y H Q → r (.str a) [y] H Q) {σ : Sl} {H : Hp} {Q : VK} (h : tE (gd X) W (sM1 f So Sa) σ H Q) : tM1 r (tBo (gd X) W So) (tBo (gd X) W Sa) σ H Q := by
  obtain ⟨P, ρ, A, st, h⟩ := h
  refine ⟨P, ρ, A, st, ?_⟩
  unfold sM1 at h
  cases ha : So ρ with
  | bad => simp only [ha, Res.bind] at h
  | exc x => simp only [ha, Res.bind] at h; exact h
  | ok dx =>
    simp only [ha, Res.bind] at h
    intro v P1 H1 B1 e1 r1 o1
    cases dx with
    | str x =>
      cases r1
      refine ⟨⟨x, rfl⟩, P1, ρ, A, st.ext e1, ?_⟩
      simp only at h
      cases hb : Sa ρ with
      | bad => simp only [hb] at h
      | exc x => simp only [hb] at h; exact PostX.ext h st.und e1
      | ok dy =>
        simp only [hb] at h
        intro v2 P2 H2 B2 e2 r2 o2
        refine hr _ _ _ _ ⟨P2, dy, B2, e2.und, r2, o2, ?_⟩
        cases hf : f x dy with
        | none => simp only [hf, opt] at h
        | some d => simp only [hf, opt] at h; exact Post.ext h st.und (e1.trans st.und e2)
    | _ => simp only at h
def strsD : List D → Option (List Str)
  | [] => some []
  | .str x :: r => (strsD r).map (x :: ·)
  | _ :: _ => none
theorem strs_rel {G : Gd} {P H : Hp} : ∀ {xs : List V} {ds : List D} {A : List Addr} {ys : List Str}, RelL G P H xs ds A → strsD ds = some ys → xs = ys.map V.str
  | _, _, _, ys, .nil, h => by simp only [strsD, Option.some.injEq] at h; subst h; rfl
  | _, _, _, ys, .cons (d := d) (ds := ds) r t, h => by
    cases r with
    | str x =>
      simp only [strsD] at h
      cases hb : strsD ds with
      | none => rw [hb] at h; cases h
      | some cs => rw [hb] at h; cases h; rw [List.map_cons, strs_rel t hb]
    | _ => simp [strsD] at h
theorem strs_relD {G : Gd} {P H : Hp} : ∀ ys : List Str, RelL G P H (ys.map V.str) (ys.map D.str) []
  | [] => .nil
  | y :: ys => .cons (A := []) (B := []) (.str y) (strs_relD ys)
def joinOk (a : Str) (ys : List Str) : Bool := decide ((ys.map (·.length)).sum + ys.length * a.length ≤ 16777216)
def fJoin (a : Str) : D → Option D
  | .lst _ ds => (strsD ds).bind fun ys => if joinOk a ys = true then some (.str (Txt.join a ys)) else none
  | .tup ds => (strsD ds).bind fun ys => if joinOk a ys = true then some (.str (Txt.join a ys)) else none
  | _ => none
theorem e_join (ho : BOk X W o So) (he : BOk X W e Sa) (hs : starEach [e] X.env = [(false, eval e X.env)] := by rfl) (hbase : attributeBase o "join" X.env (eval o X.env) = eval o X.env := by rfl) (hline : (apos.endLine == pos.line) = true := by rfl) :
    EOk X W (.Call (.Attribute o "join" apos) [e] [] pos) (sM1 fJoin So Sa) := ⟨PE.imp (pe_join ho.pe he.pe hs hbase hline) fun σ H Q h => m1_of (fun a y H Q ⟨P, dy, By, un, r, o, h⟩ => by
  have fin : ∀ {p : Addr} {xs : List V} {ds : List D} {B : List Addr}, y = .ref p → (SqL X.K H p xs ∨ SqT X.K H p xs) → RelL (gd X) P H xs ds B → (match (strsD ds).bind fun ys => if joinOk a ys = true then some (D.str (Txt.join a ys)) else none with | some d => Post (gd X) P H Q d | none => False) →
      ∃ a' p, ∃ ys : List Str, V.str a = .str a' ∧ [y] = [.ref p] ∧ (SqL X.K H p (ys.map V.str) ∨ SqT X.K H p (ys.map V.str)) ∧ (ys.map (·.length)).sum + ys.length * a'.length ≤ 16777216 ∧ Q (.str (Txt.join a' ys)) H := by
    intro p xs ds B ey hs rl h
    cases hd : strsD ds with
    | none => rw [hd] at h; exact h.elim
    | some ys =>
      rw [hd] at h
      simp only [Option.bind_some] at h
      by_cases c : joinOk a ys = true
      · rw [if_pos c] at h
        have e := strs_rel rl hd
        subst e
        exact ⟨a, p, ys, rfl, by rw [ey], hs, by simpa [joinOk] using c, post_val un h (.str _)⟩
      · rw [if_neg c] at h; exact h.elim
  cases r with
  | lstF hP rl => exact fin rfl (.inl (SqL.of (un.lst hP))) rl h
  | lstO hH rl => exact fin rfl (.inl (SqL.of hH)) rl h
  | tup hT rl => exact fin rfl (.inr (un.seqT hT)) rl h
  | _ => exact h.elim) h⟩
def fSplit (a : Str) : D → Option D
  | .str b => if b.length ≠ 0 ∧ a.length + 2 ≤ sizeLine then some (.lst true ((Txt.split a b).map .str)) else none
  | _ => none
theorem e_split (ho : BOk X W o So) (he : BOk X W e Sa) (hs : starEach [e] X.env = [(false, eval e X.env)] := by rfl) (hbase : attributeBase o "split" X.env (eval o X.env) = eval o X.env := by rfl) (hline : (apos.endLine == pos.line) = true := by rfl) :
    EOk X W (.Call (.Attribute o "split" apos) [e] [] pos) (sM1 fSplit So Sa) := ⟨PE.imp (pe_split ho.pe he.pe hs hbase hline) fun σ H Q h => m1_of (fun a y H Q ⟨P, dy, By, un, r, o, h⟩ => by
  cases r with
  | str b =>
    simp only [fSplit] at h
    by_cases c : b.length ≠ 0 ∧ a.length + 2 ≤ sizeLine
    · rw [if_pos c] at h
      exact ⟨a, b, rfl, rfl, beq_eq_false_iff_ne.mpr c.1, c.2, fun p hp => post_lst un h (strs_relD _) hp⟩
    · rw [if_neg c] at h; exact h.elim
  | _ => exact h.elim) h⟩
def fPart (a : Str) : D → Option D
  | .str b => if b.length ≠ 0 ∧ a.length ≤ sizeLine then some (.tup [.str (Txt.partition a b).1, .str (Txt.partition a b).2.1, .str (Txt.partition a b).2.2]) else none
  | _ => none
theorem e_partition (ho : BOk X W o So) (he : BOk X W e Sa) (hs : starEach [e] X.env = [(false, eval e X.env)] := by rfl) (hbase : attributeBase o "partition" X.env (eval o X.env) = eval o X.env := by rfl) (hline : (apos.endLine == pos.line) = true := by rfl) :
    EOk X W (.Call (.Attribute o "partition" apos) [e] [] pos) (sM1 fPart So Sa) := ⟨PE.imp (pe_partition ho.pe he.pe hs hbase hline) fun σ H Q h => m1_of (fun a y H Q ⟨P, dy, By, un, r, o, h⟩ => by
  cases r with
  | str b =>
    simp only [fPart] at h
    by_cases c : b.length ≠ 0 ∧ a.length ≤ sizeLine
    · rw [if_pos c] at h
      exact ⟨a, b, rfl, rfl, beq_eq_false_iff_ne.mpr c.1, c.2, fun p hp => post_tup un h (.cons (A := []) (B := []) (.str _) (.cons (A := []) (B := []) (.str _) (.cons (A := []) (B := []) (.str _) .nil))) hp⟩
    · rw [if_neg c] at h; exact h.elim
  | _ => exact h.elim) h⟩
def fZfill (a : Str) : D → Option D
  | .int i => if PadOk i = true then some (.str (Txt.zfill a i)) else none
  | _ => none
theorem e_zfill (ho : BOk X W o So) (he : BOk X W e Sa) (hs : starEach [e] X.env = [(false, eval e X.env)] := by rfl) (hbase : attributeBase o "zfill" X.env (eval o X.env) = eval o X.env := by rfl) (hline : (apos.endLine == pos.line) = true := by rfl) :
    EOk X W (.Call (.Attribute o "zfill" apos) [e] [] pos) (sM1 fZfill So Sa) := ⟨PE.imp (pe_m1 PySem.F.slot_str_zfill PySem.F.type_str_zfill mt_zfill ho.pe he.pe hs hbase hline) fun σ H Q h => m1_of (fun a y H Q ⟨P, dy, By, un, r, o, h⟩ => by
  cases r with
  | int b =>
    simp only [fZfill] at h
    by_cases c : PadOk b = true
    · rw [if_pos c] at h
      exact ⟨a, b, rfl, rfl, c, post_val un h (.str _)⟩
    · rw [if_neg c] at h; exact h.elim
  | _ => exact h.elim) h⟩
theorem it_str {G : Gd} {x : Str} : ItOk G false (Its x) (x.cps.toList.map fun c => .str ⟨#[c]⟩) fun _ _ => True where
  stay := fun _ _ _ _ _ _ _ _ _ => trivial
  go := fun i P H u _ hi => by
    rw [List.length_map] at hi
    have hs : i < x.cps.size := by simpa using hi
    refine ⟨hs, fun v H' hy => ?_⟩
    obtain ⟨e, c, hc, ev⟩ := hy
    subst e ev
    refine ⟨P, _, Ext.refl u, ?_, .str _⟩
    rw [List.getElem?_map]
    have : x.cps.toList[i]? = some c := by simpa using hc
    rw [this]
    rfl
  stop := fun i P H u _ hi => by
    rw [List.length_map] at hi
    show x.cps.size ≤ i
    simpa using hi
def strD : D → Option (List D)
  | .str x => some (x.cps.toList.map fun c => .str ⟨#[c]⟩)
  | _ => none
def sStr (S : Env → Res D) : Env → Res (List D) := fun ρ => (S ρ).bind fun d => opt (strD d)
theorem i_str {bor : Bool} {tg : Expr} (h : EOk X W e S) : IOk X W bor tg e (sStr S) := ⟨PI.imp (pi_str h.pe) fun σ H R ⟨P, ρ, A, st, q⟩ => ⟨P, ρ, A, st, by
  unfold sStr at q
  cases hs : S ρ with
  | bad => simp only [hs, Res.bind] at q
  | exc x => simp only [hs, Res.bind] at q; exact q
  | ok d =>
    simp only [hs, Res.bind] at q
    intro v P1 H1 B e1 r f
    cases r with
    | str x => exact ⟨x, rfl, q _ P1 H1 _ it_str.any trivial e1⟩
    | _ => exact (show False from q).elim⟩⟩
def iterD : D → Option (List D)
  | .str x => strD (.str x)
  | .dct o ks ds => keysD (.dct o ks ds)
  | d => seqD d
def sIter (S : Env → Res D) : Env → Res (List D) := fun ρ => (S ρ).bind fun d => opt (iterD d)
theorem i_ways {bor : Bool} {tg : Expr} {T : Env → Res (List D)} (h1 : IOk X W bor tg e T) (hT : ∀ ρ, T ρ = sSeq S ρ) (h : EOk X W e S) : IOk X W bor tg e (sIter S) := ⟨PI.imp (PI.or h1.pi (PI.or (i_str h).pi (i_keys h).pi)) fun σ H R ⟨P, ρ, A, st, q⟩ => by
  unfold sIter at q
  have go : ∀ {T' : Env → Res (List D)}, T' ρ = (S ρ).bind (fun d => opt (iterD d)) → tI (gd X) W bor T' σ H R := fun {T'} e => ⟨P, ρ, A, st, by rw [e]; exact q⟩
  cases hs : S ρ with
  | bad => simp only [hs, Res.bind] at q
  | exc x => exact .inl (go (by rw [hT]; simp only [sSeq, hs, Res.bind]))
  | ok d =>
    cases d with
    | str x => exact .inr (.inl (go (by simp only [sStr, hs, Res.bind, iterD])))
    | dct ob ks ds => exact .inr (.inr (go (by simp only [sKeys, hs, Res.bind, iterD])))
    | _ => exact .inl (go (by rw [hT]; simp only [sSeq, hs, Res.bind, iterD]))⟩
theorem i_any {bor : Bool} {tg : Expr} (h : EOk X W e S) : IOk X W bor tg e (sIter S) := i_ways (i_seq h) (fun _ => rfl) h
theorem RelL.getS {G : Gd} {P H : Hp} : ∀ {vs : List V} {ds : List D} {A : List Addr} {i : Nat} {d : D}, RelL G P H vs ds A → ds[i]? = some d → ∃ v B, vs[i]? = some v ∧ Rel G P H v d B ∧ B.Sublist A
  | _, _, _, _, _, .nil, e => by simp at e
  | _, _, _, 0, _, .cons r t, e => by simp at e; subst e; exact ⟨_, _, rfl, r, List.sublist_append_left _ _⟩
  | _, _, _, i + 1, _, .cons r t, e => by
    obtain ⟨v, B, h1, h2, h3⟩ := RelL.getS (i := i) t (by simpa using e)
    exact ⟨v, B, by simpa using h1, h2, h3.trans (List.sublist_append_right _ _)⟩
theorem atI_relS {G : Gd} {P H : Hp} {vs : List V} {ds : List D} {A : List Addr} {i : Int} {d : D} (r : RelL G P H vs ds A) (e : atI ds i = some d) : ∃ v B, atI vs i = some v ∧ Rel G P H v d B ∧ B.Sublist A := by
  unfold atI at e ⊢
  rw [r.length]
  cases h : ixN ds.length i with
  | none => rw [h] at e; cases e
  | some j =>
    rw [h] at e
    exact r.getS e
theorem lookD_relS {G : Gd} {P H : Hp} : ∀ {ks : List Key} {vs : List V} {ds : List D} {A : List Addr} {k : Key} {d : D}, RelL G P H vs ds A → ks.length = vs.length → lookD ks ds k = some d → ∃ v B, valV (ks.zip vs) k = some v ∧ Rel G P H v d B ∧ B.Sublist A
  | [], _, _, _, _, _, _, _, e => by simp [lookD] at e
  | _ :: _, [], _, _, _, _, _, h, _ => by simp at h
  | k :: ks, v :: vs, _, _, j, d, .cons (d := d0) (ds := ds) r t, h, e => by
    by_cases hk : k = j
    · have e' : d0 = d := by simpa [lookD, hk] using e
      subst e'
      exact ⟨v, _, by simp [valV, hk], r, List.sublist_append_left _ _⟩
    · have e' : lookD ks ds j = some d := by simpa [lookD, hk] using e
      obtain ⟨w, B, h1, h2, h3⟩ := lookD_relS t (by simpa using h) e'
      refine ⟨w, B, ?_, h2, h3.trans (List.sublist_append_right _ _)⟩
      unfold valV at h1 ⊢
      rw [List.zip_cons_cons, List.find?_cons_of_neg (by simpa using hk)]
      exact h1
theorem e_ixF (hu : X.A.units + 1 < cLine) (ha : EOk X W a Sa) (hb : BOk X W b Sb) (hs : PlainIx b := by exact fun _ _ => rfl) : EOk X W (.Subscript a b pos) (sIx Sa Sb) :=
  ⟨PE.imp (PE.or (pe_ix ix_seq ha.pe hb.pe hs) (pe_dget hu ha.pe hb.pe hs)) fun σ H Q ⟨P, ρ, A, st, h⟩ => by
    unfold sIx s2 at h
    cases hd : Sa ρ with
    | bad => simp only [hd, Res.bind] at h
    | exc x => exact .inl ⟨P, ρ, A, st, by rw [hd]; simp only [hd, Res.bind] at h; exact h⟩
    | ok dx =>
      simp only [hd, Res.bind] at h
      have com : ∀ {v : V} {P1 H1 : Hp} {B1 : List Addr}, Ext P H P1 H1 [] → Rel (gd X) P1 H1 v dx B1 → Fresh P1 H B1 → ∀ {r : V → V → Hp → VK → Prop}, (∀ {P2 H2 : Hp} {v2 : V} {dy d : D} {B2 : List Addr}, Under P2 H2 → Rel (gd X) P2 H2 v dx B1 → Rel (gd X) P2 H2 v2 dy B2 → opIx dx dy = some d → (∀ w C, Rel (gd X) P2 H2 w d C → C.Sublist B1 → Q w H2) → r v v2 H2 Q) →
          tBo (gd X) W Sb σ H1 fun v2 H2 => r v v2 H2 Q := by
        intro v P1 H1 B1 e1 r1 f1 r hr
        refine ⟨P1, ρ, A, st.ext e1, ?_⟩
        cases hb : Sb ρ with
        | bad => simp only [hb] at h
        | exc x => simp only [hb] at h; exact PostX.ext h st.und e1
        | ok dy =>
          simp only [hb] at h
          intro v2 P2 H2 B2 e2 r2 o2
          have o1 : ∀ b ∈ B1, P1 b = none := fun b hb => (f1.2 b hb).2
          cases hf : opIx dx dy with
          | none => rw [hf] at h; exact h.elim
          | some d =>
            rw [hf] at h
            exact hr e2.und (r1.ext e2 o1) r2 hf fun w C rw sC => h w P2 H2 C (e1.trans st.und e2) rw ⟨f1.1.sublist sC, fun b hb => ⟨(f1.2 b (sC.subset hb)).1, (e2.own r1.at o1).2 b (sC.subset hb)⟩⟩
      by_cases hdc : ∃ o ks ds, dx = .dct o ks ds
      · obtain ⟨o, ks, ds, rfl⟩ := hdc
        refine .inr ⟨P, ρ, A, st, ?_⟩
        rw [hd]
        intro v P1 H1 B1 e1 r1 f1
        refine com e1 r1 f1 (r := fun x y H Q => ∃ a w, x = .ref a ∧ DGet H a y (some w) ∧ Q w H) ?_
        intro P2 H2 v2 dy d B2 un r1' r2 hf hq
        simp only [opIx] at hf
        cases hk : keyOf dy with
        | none => rw [hk] at hf; cases hf
        | some k =>
          rw [hk] at hf
          simp only [Option.bind_some] at hf
          have ev2 : v2 = kV k := key_rel r2 hk
          subst ev2
          cases r1' with
          | dctF q l r =>
            obtain ⟨w, C, hw, rw', hC⟩ := lookD_relS r l hf
            refine ⟨_, w, rfl, .inl ⟨_, k, ?_, rfl, hw.symm⟩, hq w C rw' hC⟩
            rcases un _ _ q with z | ⟨ob, _, _, z⟩ | ⟨_, _, z, _⟩
            · exact .inl z
            · exact .inr ⟨ob, z⟩
            · cases z
          | dctO q l r =>
            obtain ⟨w, C, hw, rw', hC⟩ := lookD_relS r l hf
            exact ⟨_, w, rfl, .inl ⟨_, k, .inl q, rfl, hw.symm⟩, hq w C rw' (hC.trans (List.sublist_cons_self _ _))⟩
      · refine .inl ⟨P, ρ, A, st, ?_⟩
        rw [hd]
        intro v P1 H1 B1 e1 r1 f1
        refine com e1 r1 f1 (r := rIx X.K) ?_
        intro P2 H2 v2 dy d B2 un r1' r2 ho hq
        cases r1' with
        | tup q r =>
          cases r2 <;> simp [opIx] at ho
          obtain ⟨v, B, h1, h2, h3⟩ := atI_relS r ho
          exact .inr (.inl ⟨_, _, _, v, rfl, rfl, un.seqT q, h1, hq v B h2 h3⟩)
        | lstF q r =>
          cases r2 <;> simp [opIx] at ho
          obtain ⟨v, B, h1, h2, h3⟩ := atI_relS r ho
          exact .inl ⟨_, _, _, v, rfl, rfl, un.seqL (SqL.of q), h1, hq v B h2 h3⟩
        | lstO q r =>
          cases r2 <;> simp [opIx] at ho
          obtain ⟨v, B, h1, h2, h3⟩ := atI_relS r ho
          exact .inl ⟨_, _, _, v, rfl, rfl, SqL.of q, h1, hq v B h2 (h3.trans (List.sublist_cons_self _ _))⟩
        | scr q =>
          cases r2 <;> simp [opIx] at ho
          obtain ⟨n, hn, rfl⟩ := ho
          refine .inl ⟨_, _, _, .int n, rfl, rfl, un.seqL q, ?_, hq _ [] (.int n) (List.nil_sublist _)⟩
          unfold atI at hn ⊢
          rw [List.length_map]
          cases hi : ixN _ _ with
          | none => rw [hi] at hn; cases hn
          | some j =>
            rw [hi] at hn
            simp only [Option.bind] at hn ⊢
            rw [List.getElem?_map, hn]; rfl
        | str z =>
          cases r2 <;> simp [opIx] at ho
          obtain ⟨c, n, hn, rfl⟩ := ho
          exact .inr (.inr ⟨_, _, n, rfl, rfl, c, hn, hq _ [] (.str _) (List.nil_sublist _)⟩)
        | dctF _ _ _ => exact absurd ⟨_, _, _, rfl⟩ hdc
        | dctO _ _ _ => exact absurd ⟨_, _, _, rfl⟩ hdc
        | _ => cases r2 <;> simp [opIx] at ho⟩
def intsD : List D → Option (List Int)
  | [] => some []
  | .int x :: r => (intsD r).map (x :: ·)
  | _ :: _ => none
theorem ints_of_rel {G : Gd} {P H : Hp} : ∀ {xs : List V} {ds : List D} {A : List Addr} {ys : List Int}, RelL G P H xs ds A → intsD ds = some ys → xs = ys.map V.int
  | _, _, _, ys, .nil, h => by simp only [intsD, Option.some.injEq] at h; subst h; rfl
  | _, _, _, ys, .cons (d := d) (ds := ds) r t, h => by
    cases r with
    | int x =>
      simp only [intsD] at h
      cases hb : intsD ds with
      | none => rw [hb] at h; cases h
      | some cs => rw [hb] at h; cases h; rw [List.map_cons, ints_of_rel t hb]
    | _ => simp [intsD] at h
end
end RL
namespace RL
open PySem PySem.Spec PyProof.Rows L2
theorem GRoom.blk {X : Cx} {k : Nat} (h : GRoom k X.A) {s : Shared} {H : Hp} {sc : Scope} {c : PySem.Env} {fp : List Addr} : GRoom k (X.blk s H sc c fp).A := h
theorem GRoom.tr {X : Cx} {k : Nat} (h : GRoom k X.A) {pn : List (Addr × Obj)} {xe : Value → Shared → Prop} : GRoom k (X.tr pn xe).A := h
abbrev FaB : Type := PySem.W.Frag → Bool
def clsB (i : Stmt) : List Stmt := match i with
  | .ClassDef _ _ _ b _ _ _ _ _ _ _ => b
  | _ => []
def obsR (fa : List FaB) (fn : List He.DefD) (K : PySem.W.Frag) : He.AlD := ((fa.all fun f => f K) && fn.all fun d => d.ok K, fn.map fun d => He.fnW K d.at_)
def SaysR (fa : List FaB) (fn : List He.DefD) (K : PySem.W.Frag) : Prop := obsR fa fn K = He.valD fn
def nodupB : List Addr → Bool
  | [] => true
  | a :: l => !l.contains a && nodupB l
def emptyB : Option Obj → Bool
  | some ⟨.none, none, .fields vs, sl⟩ => vs.size == 0 && sl.size == 0
  | _ => false
def tabB (g : Addr → Option Obj) (K : PySem.W.Frag) : Bool := ((tabsOf K).all fun p => emptyB (g p.1)) && nodupB ((tabsOf K).map (·.1))
theorem frG_mem {g : Addr → Option Obj} {as : List Addr} {c : Addr} {o : Obj} (h : (c, o) ∈ He.frG g as) : c ∈ as ∧ g c = some o := by
  unfold He.frG at h
  obtain ⟨a, ha, e⟩ := List.mem_filterMap.mp h
  cases q : g a with
  | none => rw [q] at e; cases e
  | some o' =>
    rw [q] at e
    cases e
    exact ⟨ha, q⟩
theorem emptyB_of {o : Option Obj} (h : emptyB o = true) : o = some { cls := .none, data := .fields #[] } := by
  unfold emptyB at h
  split at h
  · rename_i vs sl
    simp only [Bool.and_eq_true, beq_iff_eq] at h
    have e1 : vs = #[] := Array.eq_empty_of_size_eq_zero h.1
    have e2 : sl = #[] := Array.eq_empty_of_size_eq_zero h.2
    rw [e1, e2]
  · cases h
theorem nodupB_of : ∀ {l : List (Addr × Str)}, nodupB (l.map (·.1)) = true → ∀ p ∈ l, ∀ p' ∈ l, p.1 = p'.1 → p = p'
  | [], _, p, hp, _, _, _ => by simp at hp
  | a :: l, h, p, hp, p', hp', e => by
    simp only [List.map_cons, nodupB, Bool.and_eq_true, Bool.not_eq_true', List.contains_eq_mem, decide_eq_false_iff_not] at h
    rcases List.mem_cons.mp hp with h1 | h1
    · rcases List.mem_cons.mp hp' with h2 | h2
      · rw [h1, h2]
      · exact absurd (show a.1 ∈ l.map (·.1) from List.mem_map.mpr ⟨p', h2, by rw [← e, h1]⟩) h.1
    · rcases List.mem_cons.mp hp' with h2 | h2
      · exact absurd (show a.1 ∈ l.map (·.1) from List.mem_map.mpr ⟨p, h1, by rw [e, h2]⟩) h.1
      · exact nodupB_of h.2 p h1 p' h2 e
section
variable {fa : List FaB} {fn : List He.DefD} {K : PySem.W.Frag}
theorem SaysR.fact (c : SaysR fa fn K) (i : Nat) {f : FaB} (h : fa[i]? = some f := by rfl) : f K = true := by
  have c1 := (He.ba (show ((fa.all fun f => f K) && fn.all fun d => d.ok K) = true from congrArg (fun z : He.AlD => z.1) c)).1
  exact List.all_eq_true.mp c1 f (List.mem_of_getElem? h)
theorem SaysR.def_ (c : SaysR fa fn K) (i : Nat) {d : He.DefD} (h : fn[i]? = some d := by rfl) : ∃ fd, FunD K d.name d.qual d.params d.body d.scope (d.dvs K) (d.kws K) (He.fAd K d.at_) fd := by
  have c2 := (He.ba (show ((fa.all fun f => f K) && fn.all fun d => d.ok K) = true from congrArg (fun z : He.AlD => z.1) c)).2
  have e : fn.map (fun d => He.fnW K d.at_) = fn.map He.DefD.val := congrArg (fun z : He.AlD => z.2) c
  have e2 : (fn.map fun d => He.fnW K d.at_)[i]? = (fn.map He.DefD.val)[i]? := by rw [e]
  rw [List.getElem?_map, List.getElem?_map, h] at e2
  exact He.DefD.funD (Option.some.inj e2) (List.all_eq_true.mp c2 d (List.mem_of_getElem? h))
end
def fB (f : He.Fa) : FaB := fun K => f.ok K
def fSys : FaB := fun K => match K.lookup sysModules with
  | some ⟨_, _, .seq _ _, _⟩ => false
  | some _ => true
  | none => false
def fFld (cs : List Str) (f : Str) : FaB := fun K => cs.all fun c => (He.Fa.glo c).ok K && ((He.Fa.cls c).ok K && (He.Fa.noat c f).ok K)
def fMth (c m : Str) : FaB := fun K => (He.Fa.glo c).ok K && ((He.Fa.cls c).ok K && (He.Fa.meth c m).ok K)
def fMk (c : Str) : FaB := fun K => (He.Fa.glo c).ok K && (He.Fa.mkr c).ok K
def fXc (c : Str) : FaB := fun K => (He.Fa.glo c).ok K && (He.Fa.exc c).ok K
def fSub (h : Str) (subs : List (Str × Bool)) : FaB := fun K => (He.Fa.glo h).ok K && subs.all fun p => (He.Fa.glo p.1).ok K && (He.Fa.exm p.1 h p.2).ok K
def fIs (h : Str) (tab : List (Str × Bool)) : FaB := fun K => (He.Fa.glo h).ok K && tab.all fun p => (He.Fa.glo p.1).ok K && ((He.Fa.cls p.1).ok K && (He.eqO (PySem.W.findIn K (.ref (He.ga K p.1)) "__class__") (some (some (.builtin "object.__class__"))) &&
  (He.eqO (PySem.W.specialIn K (.builtin "object.__class__") "__get__") (some (some (.builtin "getset_descriptor.__get__"))) && (decide (PySem.W.takesIn K (.builtin "object.__class__") = some true) && (decide (PySem.W.mroIn K (He.ga K p.1) (.type "object") = some true) &&
  decide (PySem.W.kitOne K (.ref (He.ga K p.1)) (.ref (He.ga K h)) = some p.2))))))
section
variable {K : PySem.W.Frag} {h : Heap} {mg : Str → Option Value} {P : Program} {w : World} {base : Heap}
theorem sys_ok (c : fSys K = true) : SysK K := by
  unfold fSys at c
  cases e : K.lookup sysModules with
  | none => rw [e] at c; cases c
  | some o =>
    rw [e] at c
    refine ⟨o, e, fun its n hd => ?_⟩
    obtain ⟨a1, a2, a3, a4⟩ := o
    simp only at hd
    subst hd
    simp at c
theorem fld_ok (X : K.In h) (G : h.Ns mainGlobals mg) {cs : List Str} {f : Str} (c : fFld cs f K = true) : FldOk K mg f cs := ⟨fun x hx => by
  obtain ⟨c1, c2⟩ := He.ba (List.all_eq_true.mp c x hx)
  obtain ⟨c2, c3⟩ := He.ba c2
  exact ⟨_, He.glo_ok X G c1, He.cls_ok c2, He.noat_ok c3⟩⟩
theorem mth_ok (X : K.In h) (G : h.Ns mainGlobals mg) {c m x qual : Str} {st : Stmt} {k : Nat} {ps : List Str} {L : List Nat} {φ : List D → FR} {fd : FuncData} (c1 : fMth c m K = true) (F : Fun K x qual st (He.fAd K (c, some m)) fd) (hG : FnG P w K mg base k (He.fAd K (c, some m)) fd ps (spF ⟨K, mg⟩ ps.length L φ))
    (b : ∀ (kV doc pm : Value) (an : Option Addr) (cdv ct : Value) (us : List Value), us.length = ps.length → bindArgs (PySem.W.fnOf x qual (defArgs st) (defBody st) (defScope st) .none kV doc pm an cdv ct) ⟨us, []⟩ = pure (ps.zip us)) : MthOk P w K mg base c m k ps L φ := by
  obtain ⟨c1, c2⟩ := He.ba c1
  obtain ⟨c2, c3⟩ := He.ba c2
  exact ⟨_, fd, _, hG, F.binds b, He.glo_ok X G c1, He.cls_ok c2, He.meth_ok c3⟩
theorem mk_ok (X : K.In h) (G : h.Ns mainGlobals mg) {c x qual : Str} {st : Stmt} {k : Nat} {ps : List Str} {φ : List D → FR} {fd : FuncData} (c1 : fMk c K = true) (F : Fun K x qual st (He.fAd K (c, some "__init__")) fd) (hG : FnG P w K mg base k (He.fAd K (c, some "__init__")) fd ps (spF ⟨K, mg⟩ ps.length [0] φ))
    (b : ∀ (kV doc pm : Value) (an : Option Addr) (cdv ct : Value) (us : List Value), us.length = ps.length → bindArgs (PySem.W.fnOf x qual (defArgs st) (defBody st) (defScope st) .none kV doc pm an cdv ct) ⟨us, []⟩ = pure (ps.zip us)) : MkOk P w K mg base c k ps φ := by
  obtain ⟨c1, c2⟩ := He.ba c1
  exact ⟨_, fd, _, hG, F.binds b, He.glo_ok X G c1, He.mkr_ok c2⟩
theorem xc_ok (X : K.In h) (G : h.Ns mainGlobals mg) {c : Str} (c1 : fXc c K = true) : XcOk K mg c := by
  obtain ⟨c1, c2⟩ := He.ba c1
  obtain ⟨h1, h2, h3, h4⟩ := He.exc_ok c2
  exact ⟨_, He.glo_ok X G c1, h1, h2, h3, h4⟩
theorem sub_ok (X : K.In h) (G : h.Ns mainGlobals mg) {x : Str} {subs : List (Str × Bool)} (c : fSub x subs K = true) : SubOk K mg x subs := by
  obtain ⟨c1, c2⟩ := He.ba c
  refine ⟨_, He.glo_ok X G c1, fun y b hy => ?_⟩
  obtain ⟨c3, c4⟩ := He.ba (List.all_eq_true.mp c2 _ hy)
  exact ⟨_, He.glo_ok X G c3, He.exm_ok c4⟩
theorem is_ok (X : K.In h) (G : h.Ns mainGlobals mg) {x : Str} {tab : List (Str × Bool)} (c : fIs x tab K = true) : IsObj K mg x tab := by
  obtain ⟨c1, c2⟩ := He.ba c
  refine ⟨_, He.glo_ok X G c1, fun y b hy => ?_⟩
  obtain ⟨c3, c4⟩ := He.ba (List.all_eq_true.mp c2 _ hy)
  obtain ⟨c4, c5⟩ := He.ba c4
  obtain ⟨c5, c6⟩ := He.ba c5
  obtain ⟨c6, c7⟩ := He.ba c6
  obtain ⟨c7, c8⟩ := He.ba c7
  obtain ⟨c8, c9⟩ := He.ba c8
  exact ⟨_, He.glo_ok X G c3, He.cls_ok c4, He.eqO_ok c5, He.eqO_ok c6, of_decide_eq_true c7, of_decide_eq_true c8, of_decide_eq_true c9⟩
end
end RL
namespace RL
open PySem PySem.Spec PyProof.Rows L2
def hasB (m a : Nat) : Bool := Nat.beq (Nat.land (Nat.shiftRight m a) 1) 1
def addR {β : Type} : List Addr → Nat → List Addr → (Nat → List Addr → β) → β
  | [], m, acc, k => k m acc
  | r :: rs, m, acc, k => match hasB m r with
    | true => addR rs m acc k
    | false => HandSHeadRun.frNat (Nat.lor m (Nat.shiftLeft 1 r)) fun m' => addR rs m' (r :: acc) k
def layR {β : Type} (g : Addr → Option Obj) : List Addr → Nat → List Addr → (Nat → List Addr → β) → β
  | [], m, acc, k => k m acc
  | a :: as, m, acc, k => match g a with
    | some o => addR (He.refsD o) m acc fun m' acc' => layR g as m' acc' k
    | none => layR g as m acc k
def reaR (g : Addr → Option Obj) : Nat → List Addr → Nat → List Addr → List Addr
  | 0, f, _, all => all ++ f
  | n + 1, f, m, all => layR g f m [] fun m' f' => reaR g n f' m' (all ++ f)
def maskR {β : Type} : List (Addr × Str) → Nat → (Nat → β) → β
  | [], m, k => k m
  | p :: ps, m, k => HandSHeadRun.frNat (Nat.lor m (Nat.shiftLeft 1 p.1)) fun m' => maskR ps m' k
def asR (n : Nat) (g : Addr → Option Obj) : List Addr := (fun l => maskR (tabsOf (He.frG g l)) 0 fun m => l.filter fun a => !hasB m a) (reaR g n [mainGlobals, sysModules] (Nat.lor (Nat.shiftLeft 1 mainGlobals) (Nat.shiftLeft 1 sysModules)) [])
def disjB (as : List Addr) (K : PySem.W.Frag) : Bool := maskR (tabsOf K) 0 fun m => as.all fun a => !hasB m a
theorem hasB_eq (m a : Nat) : hasB m a = m.testBit a := by
  have e : hasB m a = Nat.beq (m >>> a &&& 1) 1 := rfl
  rw [e, Nat.testBit, Nat.and_comm 1, Nat.and_one_is_mod]
  have := Nat.mod_two_eq_zero_or_one (m >>> a)
  rcases this with h | h <;> rw [h] <;> rfl
theorem maskR_eq {β : Type} : ∀ (ps : List (Addr × Str)) (m : Nat) (k : Nat → β), maskR ps m k = k (ps.foldl (fun m p => m ||| 1 <<< p.1) m)
  | [], _, _ => rfl
  | p :: ps, m, k => by
    have : maskR (p :: ps) m k = HandSHeadRun.frNat (m ||| 1 <<< p.1) fun m' => maskR ps m' k := rfl
    rw [this, HandSHeadRun.frNat_eq, maskR_eq ps]
    rfl
theorem bit_keep (a : Nat) : ∀ (ps : List (Addr × Str)) (m : Nat), m.testBit a = true → (ps.foldl (fun m p => m ||| 1 <<< p.1) m).testBit a = true
  | [], _, h => h
  | p :: ps, m, h => bit_keep a ps _ (by rw [Nat.testBit_or, h, Bool.true_or])
theorem bit_in (q : Addr × Str) : ∀ (ps : List (Addr × Str)) (m : Nat), q ∈ ps → (ps.foldl (fun m p => m ||| 1 <<< p.1) m).testBit q.1 = true
  | p :: ps, m, h => by
    rcases List.mem_cons.mp h with rfl | h
    · exact bit_keep _ ps _ (by rw [Nat.testBit_or, Nat.testBit_shiftLeft]; simp)
    · exact bit_in q ps _ h
theorem disjB_out {as : List Addr} {K : PySem.W.Frag} (d : disjB as K = true) {p : Addr × Str} (hp : p ∈ tabsOf K) : p.1 ∉ as := by
  unfold disjB at d
  rw [maskR_eq] at d
  intro z
  have := List.all_eq_true.mp d _ z
  rw [hasB_eq, bit_in p _ 0 hp] at this
  cases this
def tabL (as : List Addr) (g : Addr → Option Obj) : Bool := tabB g (He.frG g as) && disjB as (He.frG g as)
def obsL (as : List Addr) (fa : List FaB) (fn : List He.DefD) (g : Addr → Option Obj) : He.AlD := (tabL as g && (obsR fa fn (He.frG g as)).1, (obsR fa fn (He.frG g as)).2)
theorem ctab_L {g : Addr → Option Obj} {as : List Addr} {h : Heap} (e : ∀ a, g a = h.get? a) (b : tabL as g = true) : CtabOk (He.frG g as) h := by
  unfold tabL at b
  obtain ⟨b, d⟩ := Bool.and_eq_true_iff.mp b
  unfold tabB at b
  simp only [Bool.and_eq_true, List.all_eq_true] at b
  have src : ∀ p ∈ tabsOf (He.frG g as), p.1 ∉ as ∧ ∃ c o, c ∈ as ∧ g c = some o ∧ tabOf o = some p := by
    intro p hp
    obtain ⟨⟨c, o⟩, h1, h2⟩ := List.mem_filterMap.mp hp
    obtain ⟨h3, h4⟩ := frG_mem h1
    exact ⟨disjB_out d hp, c, o, h3, h4, h2⟩
  refine ⟨fun p hp => ?_, fun p hp => ?_, nodupB_of b.2, fun p hp => ?_⟩
  · rw [← e]
    exact emptyB_of (b.1 p hp)
  · cases q : List.lookup p.1 (He.frG g as) with
    | none => rfl
    | some o => exact absurd (frG_mem (look_mem q)).1 (src p hp).1
  · obtain ⟨n1, c, o, h1, h2, h3⟩ := src p hp
    obtain ⟨T, q⟩ := p
    exact ⟨c, tabOf_code h3 (by rw [← e]; exact h2) fun z => n1 (z ▸ h1)⟩
theorem map3 {α β γ δ : Type} {x : Option α} {f : α → β} {g : α → γ} {h : α → δ} {a : β} {b : γ} {c : δ} (h1 : x.map f = some a) (h2 : x.map g = some b) (h3 : x.map h = some c) : x.map (fun s => (f s, g s, h s)) = some (a, b, c) := by
  cases x with
  | none => cases h1
  | some s =>
    cases h1
    cases h2
    cases h3
    rfl
end RL
namespace RL
open PySem PySem.Spec PyProof.Rows L2
section
variable {P : Program} {w : World} {A : Around} {E : Value → Shared → Prop} {s : Shared}
abbrev oSet (w : World) : Obj := { cls := .type "set", dict := none, data := .set #[] 0 (.fresh 0 0 (!w.params.followText "set-order")) }
def SetIs (w : World) (s : Shared) (ns : List Int) (s2 : Shared) : Prop := ∃ h' tk c, s2 = { s with heap := h', toks := tk } ∧ SetR w h' s.heap.objs.size (fun j => decide (j ∈ ns)) c ∧ c ≤ ns.length ∧ ∀ b o, s.heap.get? b = some o → h'.get? b = some o
theorem fill {B : Around} {l : Addr} {items : Array Value} {ns : List Int} {R : Result → Shared → Prop} (hh : B.in1.in1.handled = none) (hl : s.heap.IsList l items) (hit : IntsAre items.toList ns) (hb : ns.length + 1 < scanBound)
    (done : ∀ s2, SetIs w s ns s2 → R (.ok (.ret .none)) s2) :
    wpAny (model P w) B.in1 (Builtin.«set.__init__» ⟨[.ref s.heap.objs.size, .ref l], []⟩) (fun fin s' => match fin with | .done f => R (.ok f) s' | .again c' => c'.quiet = true ∧ codeAny (model P w) B c' R s') (fun e s' => R (.error e) s') { s with heap := s.heap.push (oSet w) } := by
  have sz : items.size = ns.length := Array.length_toList.symm.trans hit.length
  have new : (s.heap.push (oSet w)).get? s.heap.objs.size = some (oSet w) := Heap.get?_push_size _ rfl
  obtain ⟨⟨oc, od, dt, osl⟩, at0, cls, n, dat⟩ := hl
  simp only at cls dat
  subst cls dat
  have at1 : (s.heap.push (oSet w)).get? l = some { cls := .type "list", dict := od, data := .seq items n, slots := osl } := Heap.get?_push_of_some _ at0
  have no1 := F.sub_list_set
  have no2 := F.sub_list_frozenset
  have no3 : (Value.type "list" == Value.type "dict") = false := by decide
  have isl : (s.heap.push (oSet w)).IsList l items := ⟨_, at1, rfl, n, rfl⟩
  have lt : l < s.heap.objs.size := Heap.lt_size at0
  have sp : (s.heap.push (oSet w)).objs.size = s.heap.objs.size + 1 := Heap.size_push ..
  unfold Builtin.«set.__init__» noKeywords Builtin.Frozenset.updateFrom
  generalize hk : pyIter = it
  wp_walk
  subst hk
  refine wpAny_pyIter_list isl (wpAny_bind (wpAny_runValue ?_))
  refine set_update_ints ((Walks.list (by first | exact hh | simp [hh]) (s.heap.push (oSet w)).objs.size l (by rw [sp]; exact Nat.ne_of_lt (Nat.lt_succ_of_lt lt)) items).toS) s.heap.objs.size ?nin ns sz hb ?vals (items.size - 0) 0 _ (by omega) (Nat.zero_le _) ⟨⟨_, Heap.get?_push_size _ rfl, rfl, rfl⟩, isl.push _⟩ ?start ?fin
  case nin =>
    rw [sp]
    intro z
    rcases List.mem_cons.mp z with z | z
    · exact absurd z (Nat.ne_of_lt (Nat.lt_succ_self _))
    · exact Nat.ne_of_gt lt (List.mem_singleton.mp z)
  case vals =>
    intro i v hv
    have lti : i < ns.length := sz ▸ (Array.getElem?_eq_some_iff.mp hv).1
    obtain ⟨t, e⟩ := hit.int_at i v (by rw [Array.getElem?_toList]; exact hv)
    rw [List.getD_eq_getElem?_getD, List.getElem?_eq_getElem lti] at e
    exact ⟨ns[i], t, List.getElem?_eq_getElem lti, e⟩
  case start => exact ⟨0, Nat.le_refl 0, setR_new_at (Heap.get?_push_of_some _ new)⟩
  case fin =>
    rintro ⟨h2, g2, d2, k2, o2⟩ c mv le sr
    obtain rfl : g2 = s.gens := mv.gens
    obtain rfl : d2 = s.drawn := mv.drawn
    obtain rfl : o2 = s.os := mv.os
    refine wpAny_pure (wpAny_pure ?_)
    refine done _ ⟨h2, k2, c, rfl, sr, sz ▸ le, fun b o e => ?_⟩
    have lb := Heap.lt_size e
    refine mv.heap b o (fun z => ?_) (Heap.get?_push_of_some _ (Heap.get?_push_of_some _ e))
    rw [sp] at z
    rcases List.mem_cons.mp z with z | z
    · exact Nat.ne_of_lt lb z
    · exact Nat.ne_of_lt (Nat.lt_succ_of_lt lb) (List.mem_singleton.mp z)
theorem set_listI {l : Addr} {items : Array Value} {ns : List Int} {Q : Value → Shared → Prop} (hh : A.handled = none) (hl : s.heap.IsList l items) (hit : IntsAre items.toList ns) (hb : ns.length + 1 < scanBound)
    (h : ∀ s2, SetIs w s ns s2 → Q (.ref s.heap.objs.size) s2) : wpAny (model P w) A (call (.type "set") [.ref l]) Q E s := by
  obtain ⟨c0, tl0, order⟩ := F.called_set.mro
  have how := F.called_set.made
  have su := F.called_set.sub
  have k1 := F.called_set.notType
  have k2 := F.called_set.canCreate
  have k3 := F.typeCall_set_1 (.ref l)
  refine wpAny_call (codeAny_of_tree (show wpAny _ _ (callAny (.type "set") _) _ _ _ from ?_))
  refine wpAny_pure ⟨Code.quiet_builtin _ (by decide +kernel), codeAny_builtin F.entry_type_call ?_⟩
  rw [Around.under_plain (weight_type_call_type "set" [.ref l] []) rfl]
  repeat any_goals (first | assumption | wp_step)
  refine codeAny_mono (code_set_led1 (.ref l) (E := E) (Q₁ := fun v s1 => v = .ref s.heap.objs.size ∧ s1 = { s with heap := s.heap.push (oSet w) }) ⟨rfl, rfl⟩) fun r s1 hr => ?_
  rcases r with e | fl
  · exact hr
  cases fl <;> first | exact hr.elim | skip
  obtain ⟨rfl, rfl⟩ := hr
  have ty : Shared.TypeIs { s with heap := s.heap.push (oSet w) } (.ref s.heap.objs.size) "set" := ⟨_, Heap.get?_push_size _ rfl, rfl⟩
  have j1 := F.called_set.init.lookup
  have j2 := F.called_set.init.bind (.ref s.heap.objs.size)
  repeat any_goals (first | assumption | wp_step)
  refine codeAny_mono (codeAny_call_builtin (R := wants (fun r s2 => r = .none ∧ SetIs w s ns s2) E) F.called_set.init.plain F.entry_set_init (check_set_init_1 ty (fill (by simp [hh]) hl hit hb fun s2 q => ⟨rfl, q⟩))) fun r2 s2 hr2 => ?_
  rcases r2 with e | fl
  · exact hr2
  cases fl <;> first | exact hr2.elim | skip
  obtain ⟨rfl, q⟩ := hr2
  have q' := q
  obtain ⟨h', tk, c, rfl, _⟩ := q'
  repeat any_goals (first | assumption | wp_step)
  exact h _ q
end
section
variable {X : Cx} {W : WX} {a : Expr} {S : Env → Res D} {p p2 q pos : Pos}
def tSortSet (K : PySem.W.Frag) (ta : TE) : TE := fun σ H Q => ta σ H fun x H1 => ∃ (l : Addr) (ns : List Int), x = .ref l ∧ SqL K H1 l (ns.map V.int) ∧ ns.length < 64 ∧
  ∀ (ms : List Int) (b : Addr), ms.Pairwise (· < ·) → (∀ k, k ∈ ms ↔ k ∈ ns) → H1 b = none → Q (.ref b) (upd H1 b (.lst (ms.map V.int)))
theorem pe_sortSet {ta : TE} (hc : X.calm = true) (hg : Gl X "sorted") (hm : X.mg "sorted" = none) (hg2 : Gl X "set") (hm2 : X.mg "set" = none) (ha : PE X a ta)
    (na : starEach [a] X.env = (false, eval a X.env) :: starEach [] X.env := by rfl) : PE X (.Call (.Name "sorted" p) [.Call (.Name "set" p2) [a] [] q] [] pos) (tSortSet X.K ta) := by
  refine ⟨fun pins s σ H Q I h => ?_⟩
  refine Call_ (ld_blt I hg hm PyProof.Rows.boot_sorted (callWith_builtin1 (args_cons ?_ rfl) rfl rfl))
  refine Call_ (ld_blt I hg2 hm2 boot_set (callWith_type1 (args_cons (thn (ha.run pins s σ H _ I h) fun v s1 ⟨x, H1, I1, r1, q1⟩ => args_nil ?_) na) na rfl))
  obtain ⟨l, ns, rfl, hq, h64, q1⟩ := q1
  cases r1
  obtain ⟨its, r, pl, hz⟩ := I1.list hq
  refine set_listI (I1.ok.hd hc) pl.isList (ns := ns) (by simpa using r.ints) (by unfold scanBound; omega) fun s2 ⟨h', tk, c, e, sr, cl, kp⟩ => ?_
  subst e
  refine args_nil ?_
  have I2 : Inv X pins σ H1 { s1 with heap := h', toks := tk } := I1.kept kp
  refine sorted_set sr (I2.ok.hd hc) (by omega) fun z b out cnt ms kp2 gz oz new ob hi asc mem len => ?_
  have few : (ms.map V.int).length ≤ sizeLine := by
    rw [List.length_map, len, sizeLine_eq]
    omega
  have fr2 := I2.hok.fresh new
  obtain ⟨zh, zg, zd, zt, zo⟩ := z
  simp only at gz oz
  subst gz oz
  have J : L2.Inv X pins σ (upd H1 b (.lst (ms.map V.int))) ⟨zh, s1.gens, zd, zt, s1.os⟩ := L2.Inv.call (s := { s1 with heap := h', toks := tk }) (ch := []) I2 (Un.laid kp2 new fr2) (I2.hok.laid kp2 new ⟨few, out.toList, cnt, vals_of_ints hi, ob⟩) I2.bare (fun _ z => nomatch z)
  exact ⟨.ref b, _, J, rfl, q1 ms b asc (fun k => (mem k).trans (by simp)) fr2⟩
def insI (n : Int) : List Int → List Int
  | [] => [n]
  | m :: ms => if n < m then n :: m :: ms else if n = m then m :: ms else m :: insI n ms
def sortI : List Int → List Int
  | [] => []
  | n :: ns => insI n (sortI ns)
theorem insI_mem {n k : Int} : ∀ {ms : List Int}, k ∈ insI n ms ↔ k = n ∨ k ∈ ms
  | [] => by simp [insI]
  | m :: ms => by
    unfold insI
    split
    · simp
    · split
      · rename_i e
        subst e
        simp
      · rw [List.mem_cons, insI_mem, List.mem_cons]
        constructor
        · rintro (h | h | h)
          · exact .inr (.inl h)
          · exact .inl h
          · exact .inr (.inr h)
        · rintro (h | h | h)
          · exact .inr (.inl h)
          · exact .inl h
          · exact .inr (.inr h)
theorem insI_up {n : Int} : ∀ {ms : List Int}, ms.Pairwise (· < ·) → (insI n ms).Pairwise (· < ·)
  | [], _ => by simp [insI]
  | m :: ms, h => by
    obtain ⟨h1, h2⟩ := List.pairwise_cons.mp h
    unfold insI
    split
    · rename_i lt
      refine List.pairwise_cons.mpr ⟨fun k hk => ?_, h⟩
      rcases List.mem_cons.mp hk with rfl | hk
      · exact lt
      · exact Int.lt_trans lt (h1 k hk)
    · split
      · exact h
      · rename_i a b
        refine List.pairwise_cons.mpr ⟨fun k hk => ?_, insI_up h2⟩
        rcases insI_mem.mp hk with rfl | hk
        · omega
        · exact h1 k hk
theorem sortI_mem {k : Int} : ∀ {ns : List Int}, k ∈ sortI ns ↔ k ∈ ns
  | [] => by simp [sortI]
  | n :: ns => by rw [sortI, insI_mem, sortI_mem, List.mem_cons]
theorem sortI_up : ∀ ns : List Int, (sortI ns).Pairwise (· < ·)
  | [] => .nil
  | n :: ns => insI_up (sortI_up ns)
theorem up_unique : ∀ {xs ys : List Int}, xs.Pairwise (· < ·) → ys.Pairwise (· < ·) → (∀ k, k ∈ xs ↔ k ∈ ys) → xs = ys
  | [], [], _, _, _ => rfl
  | [], y :: ys, _, _, h => by have := (h y).mpr List.mem_cons_self; simp at this
  | x :: xs, [], _, _, h => by have := (h x).mp List.mem_cons_self; simp at this
  | x :: xs, y :: ys, hx, hy, h => by
    obtain ⟨a1, a2⟩ := List.pairwise_cons.mp hx
    obtain ⟨b1, b2⟩ := List.pairwise_cons.mp hy
    have e : x = y := by
      rcases List.mem_cons.mp ((h x).mp List.mem_cons_self) with e | e
      · exact e
      · rcases List.mem_cons.mp ((h y).mpr List.mem_cons_self) with e2 | e2
        · exact e2.symm
        · have := b1 x e
          have := a1 y e2
          omega
    subst e
    rw [up_unique a2 b2 fun k => ?_]
    constructor
    · intro hk
      rcases List.mem_cons.mp ((h k).mp (List.mem_cons_of_mem _ hk)) with e | e
      · have := a1 k hk
        omega
      · exact e
    · intro hk
      rcases List.mem_cons.mp ((h k).mpr (List.mem_cons_of_mem _ hk)) with e | e
      · have := b1 k hk
        omega
      · exact e
def fSortSet : D → Option D
  | .lst _ ds => (intsD ds).bind fun ns => if ns.length < 64 then some (.lst true ((sortI ns).map .int)) else none
  | _ => none
theorem e_sortSet (hc : X.calm = true) (hm : X.mg "sorted" = none) (hm2 : X.mg "set" = none) (ha : BOk X W a S) (hg : Gl X "sorted" := by rfl) (hg2 : Gl X "set" := by rfl)
    (na : starEach [a] X.env = (false, eval a X.env) :: starEach [] X.env := by rfl) : EOk X W (.Call (.Name "sorted" p) [.Call (.Name "set" p2) [a] [] q] [] pos) (s1 fSortSet S) :=
  ⟨PE.imp (pe_sortSet hc hg hm hg2 hm2 ha.pe na) fun σ H Q ⟨P, ρ, A, st, h⟩ => ⟨P, ρ, A, st, by
    unfold s1 at h
    cases hs : S ρ with
    | bad => simp only [hs, Res.bind] at h
    | exc x => simp only [hs, Res.bind] at h; exact h
    | ok d =>
      simp only [hs, Res.bind] at h
      intro v P1 H1 B1 e1 r o
      cases hf : fSortSet d with
      | none => rw [hf] at h; exact h.elim
      | some z =>
        rw [hf] at h
        have fin : ∀ {l : Addr} {xs : List V} {ds : List D} {B : List Addr}, v = .ref l → SqL X.K H1 l xs → RelL (gd X) P1 H1 xs ds B → ((intsD ds).bind fun ns => if ns.length < 64 then some (D.lst true ((sortI ns).map .int)) else none) = some z →
            ∃ (l : Addr) (ns : List Int), v = .ref l ∧ SqL X.K H1 l (ns.map V.int) ∧ ns.length < 64 ∧ ∀ (ms : List Int) (b : Addr), ms.Pairwise (· < ·) → (∀ k, k ∈ ms ↔ k ∈ ns) → H1 b = none → Q (.ref b) (upd H1 b (.lst (ms.map V.int))) := by
          intro l xs ds B ev hq rl hz
          cases hi : intsD ds with
          | none => rw [hi] at hz; cases hz
          | some ns =>
            rw [hi] at hz
            simp only [Option.bind_some] at hz
            split at hz
            · rename_i few
              cases hz
              have ex := ints_of_rel rl hi
              subst ex
              refine ⟨l, ns, ev, hq, few, fun ms b up mem hb => ?_⟩
              have em : ms = sortI ns := up_unique up (sortI_up ns) fun k => (mem k).trans sortI_mem.symm
              subst em
              exact post_lst e1.und (Post.ext h st.und e1) (ints_rel _) hb
            · cases hz
        cases r with
        | lstF hP rl => exact fin rfl (SqL.of (e1.und.lst hP)) rl hf
        | lstO hH rl => exact fin rfl (SqL.of hH) rl hf
        | _ => simp [fSortSet] at hf⟩⟩
end
end RL
namespace RL
open PySem PySem.Spec PyProof.Rows L2
def tLMv (G : Gd) (W : WX) (S : Env → Res (List D × Env)) : TA := fun σ H Q => ∃ P ρ A, StRel G P H σ ρ A ∧ match S ρ with
  | .ok r => ∀ vs P' H' B A', Ext P H P' H' [] → RelL G P' H' vs r.1 B → StRel G P' H' σ r.2 A' → (∀ b ∈ A', b ∈ A) → (B ++ A').Nodup → (∀ b ∈ B, P' b = none ∧ (H b = none ∨ b ∈ A)) → Q vs H'
  | .exc x => PostX G P H W σ x
  | .bad => False
structure AMk (X : Cx) (W : WX) (es : List Expr) (S : Env → Res (List D × Env)) : Prop where pa : PA X es (tLMv (gd X) W S)
section
variable {X : Cx} {W : WX} {L : List Nat} {e : Expr} {es : List Expr} {pos : Pos} {S : Env → Res D} {T : Env → Res (List D × Env)}
end
end RL
namespace RL
open PySem PySem.Spec PyProof.Rows L2
section
variable {X : Cx} {W : WX} {L : List Nat} {e a b o f : Expr} {pos apos cpos : Pos} {Sa Sb S So : Env → Res D} {k : Nat}
def isDct : D → Bool
  | .dct _ _ _ => true
  | _ => false
end
end RL
namespace RL
open PySem PySem.Spec PyProof.Rows L2
section
variable {P : Program} {w : World} {A : Around} {E : Value → Shared → Prop} {s : Shared} {T : String} {r d : Addr} {n : Nat} {Pv : Nat → Value → Prop} {OK : Heap → Prop}
theorem tup_new {Q : Value → Shared → Prop} (K : PySem.W.KdlSrc P w T r d n Pv OK) (hh : A.in1.handled = none) (hok : OK s.heap) (hn : n ≤ sizeLine) (nt : (Value.type T == Value.type "tuple") = false)
    (h : ∀ (h' : Heap) (tk : Nat) (acc : Array Value), (∀ b o, s.heap.get? b = some o → h'.get? b = some o) → ItemsOf Pv acc n → Q (.ref h'.objs.size) { s with heap := h'.push { cls := .type "tuple", data := .seq acc }, toks := tk }) :
    codeAny (model P w) A (.call (.builtin "tuple.__new__") ⟨[.type "tuple", .ref r], []⟩) (wants Q E) s := by
  have ty := K.type s hok
  refine codeAny_of_tree (show wpAny _ A.in1 (do checkBuiltinCall "tuple.__new__" ⟨[.type "tuple", .ref r], []⟩; again (.builtin "tuple.__new__" ⟨[.type "tuple", .ref r], []⟩)) _ _ s from ?_)
  refine wpAny_bind (wpAny_of_eq (F.newCall_tuple_1 _) (wpAny_pure ⟨plainId_quiet F.plain_tuple_new _, codeAny_builtin F.entry_tuple_new ?_⟩))
  rw [Around.under_plainId F.plain_tuple_new _]
  have u1 := sub_tuple_self
  have u2 := init_tuple_lookup
  have u3 := madeHere_tuple
  wp_walk using wpAny_typeOf ty, PySem.W.kdu_collect K hh hok hn
  intro h' tk acc kp it
  show wpAny _ _ (Builtin.Tuple.tupleExact acc.toList.toArray >>= fun v => ret v) _ _ _
  rw [Array.toArray_toList]
  unfold Builtin.Tuple.tupleExact
  exact wpAny_bind (wpAny_newObj_type (wpAny_pure (h h' tk acc kp it)) (by show acc.size ≤ sizeLine; rw [it.1]; exact hn))
end
theorem tup_call {P : Program} {w : World} {A : Around} {E : Value → Shared → Prop} {s : Shared} {T : String} {r d : Addr} {n : Nat} {Pv : Nat → Value → Prop} {OK : Heap → Prop} {Q : Value → Shared → Prop} (K : PySem.W.KdlSrc P w T r d n Pv OK) (hh : A.handled = none) (hok : OK s.heap) (hn : n ≤ sizeLine)
    (h : ∀ (h' : Heap) (tk : Nat) (acc : Array Value), (∀ b o, s.heap.get? b = some o → h'.get? b = some o) → ItemsOf Pv acc n → Q (.ref h'.objs.size) { s with heap := h'.push { cls := .type "tuple", data := .seq acc }, toks := tk }) :
    wpAny (model P w) A (call (.type "tuple") [.ref r]) Q E s := by
  have made := tup_new (A := A.in1) (E := E) (Q := fun v s2 => s2.TypeIs v "tuple" ∧ Q v s2) K (by simp [hh]) hok hn K.notTuple fun h' tk acc kp it => ⟨⟨_, Heap.get?_push_size _ rfl, rfl⟩, h h' tk acc kp it⟩
  exact callType_codes F.called_tuple (F.typeCall_tuple_1 _) F.entry_object_init made fun v s2 q => ⟨q.1, F.args_object_init_2 v _, object_init_meets F.called_tuple.init.lookup F.called_tuple.made (by decide) P w A.in1 _ s2 ⟨q.1, rfl, q.2⟩⟩
theorem kv_vals : ∀ {kvs : List (Key × V)} {vs : List (Key × Value)}, KV kvs vs → Vals (kvs.map (·.2)) (vs.map (·.2))
  | _, _, .nil => .nil
  | _, _, .cons h t => .cons h.2 (kv_vals t)
theorem acc_eq {vs : List (Key × Value)} {acc : Array Value} (h : ItemsOf (fun i v => ∃ k, vs[i]? = some (k, v)) acc vs.length) : acc.toList = vs.map (·.2) := by
  apply List.ext_getElem?
  intro i
  rw [Array.getElem?_toList, List.getElem?_map]
  cases e : acc[i]? with
  | some v =>
    obtain ⟨k, hk⟩ := h.2 i v e
    rw [hk]
    rfl
  | none =>
    have := Array.getElem?_eq_none_iff.mp e
    rw [List.getElem?_eq_none (by have := h.1; omega)]
    rfl
section
variable {X : Cx} {W : WX} {e : Expr} {S : Env → Res D} {p apos cpos pos : Pos}
def tTupVals (td : TE) : TE := fun σ H Q => td σ H fun x H1 => ∃ a kvs, x = .ref a ∧ Rd H1 a (.dK kvs) ∧ ∀ b, H1 b = none → Q (.ref b) (upd H1 b (.tup (kvs.map (·.2))))
theorem pe_tupVals {td : TE} (hc : X.calm = true) (hg : Gl X "tuple") (hm : X.mg "tuple" = none) (he : PE X e td) (hbase : attributeBase e "values" X.env (eval e X.env) = eval e X.env := by rfl) (hline : (apos.endLine == cpos.line) = true := by rfl)
    (na : starEach [.Call (.Attribute e "values" apos) [] [] cpos] X.env = (false, eval (.Call (.Attribute e "values" apos) [] [] cpos) X.env) :: starEach [] X.env := by rfl) : PE X (.Call (.Name "tuple" p) [.Call (.Attribute e "values" apos) [] [] cpos] [] pos) (tTupVals td) := by
  refine ⟨fun pins s σ H Q I h => ?_⟩
  refine Call_ (ld_blt I hg hm PyProof.Rows.boot_tuple (callWith_type1 (args_cons ?_ na) na rfl))
  refine wpAny_Call_method (T := "dict") (id := "dict.values") hbase rfl hline F.plainAttrs_dict F.slot_dict_values F.type_dict_values (thn (he.run pins s σ H _ I h) fun u s1 ⟨x, H1, I1, rx, a, kvs, ex, hd, q⟩ => ?_)
  subst ex
  obtain rfl : u = Value.ref a := rx
  obtain ⟨hz, hs, vs, kv, dd⟩ := dk_rd I1.hok hd
  refine ⟨dd.typeIs, dd.mapOf.noDict, ?_⟩
  refine method_meetsIn F.slot_dict_values F.entry_dict_values rfl (PySem.evalArgs_none ⟨rfl, dd.typeIs, F.args_dict_values_1 _, _, meets_dict_values (mixKind X.prog X.w) a hs, ⟨vs, dd⟩, ?_⟩)
  refine args_nil ?_
  obtain ⟨o, es, ep, o1, o2, o3, o4, o5, o6⟩ := dd
  have at0 : s1.heap.DictAt (mixKind X.prog X.w) a vs ep := ⟨o, es, o1, o2, o3, o4, o5, o6⟩
  have hl : kvs.length = vs.length := Paired.length kv
  have vw : (s1.heap.push { cls := .type "dict_values", data := .fields #[.ref a] }).get? s1.heap.objs.size = some { cls := .type "dict_values", data := .fields #[.ref a] } := Heap.get?_push_size _ rfl
  refine tup_call (PySem.W.kdl_values (knd := mixKind X.prog X.w) (kvs := vs) (ep := ep) (r := s1.heap.objs.size) (d := a)) (I1.ok.hd hc) ⟨⟨_, vw, rfl, rfl⟩, at0.push _⟩ (by omega) fun h' tk acc kp it => ?_
  have ea := acc_eq it
  have I2 : L2.Inv X pins σ H1 { s1 with heap := h' } := I1.kept (t' := s1.toks) fun b ob z => kp b ob (Heap.get?_push_of_some _ z)
  have rv := kv_vals kv
  rw [← ea] at rv
  have I3 : L2.Inv X pins σ (upd H1 h'.objs.size (.tup (kvs.map (·.2)))) { s1 with heap := h'.push { cls := .type "tuple", data := .seq acc }, toks := tk } :=
    I2.laid (t' := tk) (fun b ob z => Heap.get?_push_of_some _ z) (Nat.le_refl _) (show ObjOk X.prog X.w _ _ _ (.tup (kvs.map (·.2))) from ⟨by rw [List.length_map]; exact hz, acc.toList, rv, by rw [Array.toArray_toList]; exact IsTup.new _ _⟩)
  exact ⟨.ref h'.objs.size, _, I3, rfl, q _ (I2.hok.fresh (Nat.le_refl _))⟩
def fTupV : D → Option D
  | .dct _ ks ds => if cleanL ds = true then some (.tup ds) else none
  | _ => none
theorem zip_snd {ks : List Key} {vs : List V} (h : ks.length = vs.length) : (ks.zip vs).map (·.2) = vs := by
  rw [List.map_snd_zip (by omega)]
theorem e_tupVals (hc : X.calm = true) (hm : X.mg "tuple" = none) (he : BOk X W e S) (hg : Gl X "tuple" := by rfl) (hbase : attributeBase e "values" X.env (eval e X.env) = eval e X.env := by rfl) (hline : (apos.endLine == cpos.line) = true := by rfl)
    (na : starEach [.Call (.Attribute e "values" apos) [] [] cpos] X.env = (false, eval (.Call (.Attribute e "values" apos) [] [] cpos) X.env) :: starEach [] X.env := by rfl) : EOk X W (.Call (.Name "tuple" p) [.Call (.Attribute e "values" apos) [] [] cpos] [] pos) (s1 fTupV S) :=
  ⟨PE.imp (pe_tupVals hc hg hm he.pe hbase hline na) fun σ H Q ⟨P, ρ, A, st, h⟩ => ⟨P, ρ, A, st, by
    unfold s1 at h
    cases hs : S ρ with
    | bad => simp only [hs, Res.bind] at h
    | exc x => simp only [hs, Res.bind] at h; exact h
    | ok d =>
      simp only [hs, Res.bind] at h
      intro v P1 H1 B1 e1 r o
      cases d with
      | dct ob ks ds =>
        obtain ⟨a, vs, B, rfl, hdk, hl, rl, hB⟩ := dget_of e1.und r
        by_cases c : cleanL ds = true
        · simp only [fTupV, c, if_true, opt] at h
          refine ⟨a, _, rfl, hdk, fun b hb => ?_⟩
          rw [zip_snd hl]
          exact post_tup e1.und (Post.ext h st.und e1) (rl.nil_of c) hb
        · simp only [fTupV, c, Bool.false_eq_true, if_false, opt] at h
      | _ => simp [fTupV, opt] at h⟩⟩
end
end RL
namespace RL
open PySem PySem.Spec PyProof.Rows L2
def tDp (G : Gd) (W : WX) (S : Env → Res (List (Key × D))) : Sl → Hp → (List (V × V) → Hp → Prop) → Prop := fun σ H Q => ∃ P ρ A, StRel G P H σ ρ A ∧ match S ρ with
  | .ok r => ∀ vs P' H' B, Ext P H P' H' [] → RelL G P' H' vs (r.map (·.2)) B → Fresh P' H B → Q ((r.map fun z => kV z.1).zip vs) H'
  | .exc x => PostX G P H W σ x
  | .bad => False
structure DpOk (X : Cx) (W : WX) (keys : List (Option Expr)) (values : List Expr) (S : Env → Res (List (Key × D))) : Prop where
  ex : ∃ trs, (∀ pos, PPs X pos keys values trs) ∧ ∀ σ H Q, tDp (gd X) W S σ H Q → tPairs trs σ H Q
section
variable {X : Cx} {W : WX} {pos : Pos} {k v : Expr} {ks : List (Option Expr)} {vs : List Expr} {Sk Sv : Env → Res D} {T : Env → Res (List (Key × D))}
end
end RL
namespace RL
open PySem PySem.Spec PyProof.Rows L2
section
variable {X : Cx} {W : WX} {e : Expr} {S : Env → Res D} {pos : Pos}
def fTux : D → Option D
  | .lst _ ds => if cleanL ds = true then some (.tux ds) else none
  | _ => none
theorem call_tupleX : CallR X (.type "tuple") (fun vs H Q => ∃ a ws, vs = [V.ref a] ∧ SqL X.K H a ws ∧ ∀ (l : Addr) (o : Obj), o.dict = none → H l = none → Q (.ref l) (upd H l (.frz o (.tup ws)))) := by
  intro pn s0 σ H vs us Q J rv h
  obtain ⟨a, ws, rfl, hq, q⟩ := h
  obtain ⟨u, rfl, ru⟩ := vals1 rv
  cases ru
  obtain ⟨its, rw', pl, hz⟩ := J.list hq
  have hlen := rw'.length
  refine call_tuple_list pl.isList (fun g kp => ?_) (by simp only [List.size_toArray]; omega)
  have J1 : Inv X pn σ H { s0 with heap := g } := J.kept (t' := s0.toks) kp
  have at_ : (g.push { cls := .type "tuple", data := .seq its.toArray }).get? g.objs.size = some { cls := .type "tuple", data := .seq its.toArray } := Heap.get?_push_size _ rfl
  have J2 : Inv X pn σ (upd H g.objs.size (.frz { cls := .type "tuple", data := .seq its.toArray } (.tup ws))) { s0 with heap := g.push { cls := .type "tuple", data := .seq its.toArray } } :=
    J1.laid (t' := s0.toks) (fun b o z => Heap.get?_push_of_some _ z) (Nat.le_refl _) (show ObjOk X.prog X.w _ _ _ (.frz _ (.tup ws)) from ⟨at_, hz, its, rw', IsTup.new _ _⟩)
  exact ⟨.ref g.objs.size, _, J2, rfl, q _ _ rfl (J1.hok.fresh (Nat.le_refl _))⟩
theorem post_tux {G : Gd} {P H : Hp} {Q : VK} {ds : List D} {xs : List V} {p : Addr} {o : Obj} (u : Under P H) (h : Post G P H Q (.tux ds)) (ho : o.dict = none) (r : RelL G P H xs ds []) (hp : H p = none) : Q (.ref p) (upd H p (.frz o (.tup xs))) :=
  h _ _ _ _ (ext_fix u hp) (.tux upd_same ho (r.mono (ext_fix (o := .frz o (.tup xs)) u hp).same (by simp))) Fresh.nil
theorem c_tux : CallR X (.type "tuple") (rC (gd X) (on1 fTux)) := CallR.imp call_tupleX fun xs H Q h => by
  obtain ⟨v, P, d, B, z, rfl, un, r, o, hf, q⟩ := rC1 h
  cases r with
  | lstF q1 r =>
    simp only [fTux] at hf
    split at hf
    · rename_i c; cases hf; exact ⟨_, _, rfl, un.seqL (SqL.of q1), fun l o ho hl => post_tux un q ho (r.nil_of c) hl⟩
    · cases hf
  | lstO q1 r =>
    simp only [fTux] at hf
    split at hf
    · rename_i c; cases hf; exact ⟨_, _, rfl, SqL.of q1, fun l o ho hl => post_tux un q ho (r.nil_of c) hl⟩
    · cases hf
  | _ => simp [fTux] at hf
def D.tp1 : D → D
  | .tux ds => .tup ds
  | d => d
mutual
def D.tp : D → D
  | .tux ds => .tup (tpL ds)
  | .tup ds => .tup (tpL ds)
  | d => d
def tpL : List D → List D
  | [] => []
  | d :: ds => d.tp :: tpL ds
end
theorem Rel.tp1 {G : Gd} {P H : Hp} {v : V} {d : D} {A : List Addr} (r : Rel G P H v d A) : Rel G P H v d.tp1 A := by
  cases r with
  | tux h e r => exact .tup (.inl (.inr ⟨_, h⟩)) r
  | _ => constructor <;> assumption
mutual
theorem Rel.tp {G : Gd} {P H : Hp} : ∀ {v : V} {d : D} {A : List Addr}, Rel G P H v d A → Rel G P H v d.tp A
  | _, _, _, .tux h e r => by simp only [D.tp]; exact .tup (.inl (.inr ⟨_, h⟩)) (RelL.tp r)
  | _, _, _, .tup q r => by simp only [D.tp]; exact .tup q (RelL.tp r)
  | _, _, _, .non => by simp only [D.tp]; exact .non
  | _, _, _, .bl b => by simp only [D.tp]; exact .bl b
  | _, _, _, .int b => by simp only [D.tp]; exact .int b
  | _, _, _, .str b => by simp only [D.tp]; exact .str b
  | _, _, _, .scr q => by simp only [D.tp]; exact .scr q
  | _, _, _, .lstF q r => by simp only [D.tp]; exact .lstF q r
  | _, _, _, .lstO q r => by simp only [D.tp]; exact .lstO q r
  | _, _, _, .dctF q l r => by simp only [D.tp]; exact .dctF q l r
  | _, _, _, .dctO q l r => by simp only [D.tp]; exact .dctO q l r
  | _, _, _, .objF c q l r => by simp only [D.tp]; exact .objF c q l r
  | _, _, _, .objO c q l r => by simp only [D.tp]; exact .objO c q l r
  | _, _, _, .exn c q x => by simp only [D.tp]; exact .exn c q x
theorem RelL.tp {G : Gd} {P H : Hp} : ∀ {vs : List V} {ds : List D} {A : List Addr}, RelL G P H vs ds A → RelL G P H vs (tpL ds) A
  | _, _, _, .nil => by simp only [tpL]; exact .nil
  | _, _, _, .cons r t => by simp only [tpL]; exact .cons (Rel.tp r) (RelL.tp t)
end
def sTo (f : D → D) (S : Env → Res D) : Env → Res D := fun ρ => (S ρ).bind fun d => .ok (f d)
theorem e_to {f : D → D} (hf : ∀ {G : Gd} {P H : Hp} {v : V} {d : D} {A : List Addr}, Rel G P H v d A → Rel G P H v (f d) A) (he : EOk X W e S) : EOk X W e (sTo f S) := ⟨PE.imp he.pe fun σ H Q ⟨P, ρ, A, st, h⟩ => ⟨P, ρ, A, st, by
  unfold sTo at h
  cases hs : S ρ with
  | bad => simp only [hs, Res.bind] at h
  | exc x => simp only [hs, Res.bind] at h; exact h
  | ok d =>
    simp only [hs, Res.bind] at h
    exact fun v P1 H1 B e1 r fr => h v P1 H1 B e1 (hf r) fr⟩⟩
theorem b_to {f : D → D} (hf : ∀ {G : Gd} {P H : Hp} {v : V} {d : D} {A : List Addr}, Rel G P H v d A → Rel G P H v (f d) A) (he : BOk X W e S) : BOk X W e (sTo f S) := ⟨PE.imp he.pe fun σ H Q ⟨P, ρ, A, st, h⟩ => ⟨P, ρ, A, st, by
  unfold sTo at h
  cases hs : S ρ with
  | bad => simp only [hs, Res.bind] at h
  | exc x => simp only [hs, Res.bind] at h; exact h
  | ok d =>
    simp only [hs, Res.bind] at h
    exact fun v P1 H1 B e1 r fr => h v P1 H1 B e1 (hf r) fr⟩⟩
theorem e_tp1 (he : EOk X W e S) : EOk X W e (sTo D.tp1 S) := e_to Rel.tp1 he
theorem b_tp (he : BOk X W e S) : BOk X W e (sTo D.tp S) := b_to Rel.tp he
@[simp] theorem tp1_x {ds : List D} : (D.tux ds).tp1 = .tup ds := rfl
@[simp] theorem tp1_t {ds : List D} : (D.tup ds).tp1 = .tup ds := rfl
@[simp] theorem clean_x {ds : List D} : (D.tux ds).clean = cleanL ds := by simp [D.clean]
@[simp] theorem frz_x {ds : List D} : (D.tux ds).frz = .tux (frzL ds) := by simp [D.frz]
@[simp] theorem sTo_ap {f : D → D} {ρ : Env} : sTo f S ρ = (S ρ).bind fun d => .ok (f d) := rfl
end
end RL
namespace RL
open PySem PySem.Spec PyProof.Rows L2
section
variable {prog : Program} {w : World} {A : Around} {E : Value → Shared → Prop} {s : Shared} {en : PySem.Env} {x : Str} {m : Str → Option Value} {v y : Value} {Q : Value → Shared → Prop} {p1 p2 p3 p4 : Pos} {j : Nat}
structure Lcl (en : PySem.Env) (s : Shared) (m : Str → Option Value) : Prop where
  kind : en.scope.kind = .function
  ns : s.heap.Ns en.locals m
end
end RL
namespace RL
open PySem PySem.Spec PyProof.Rows L2
section
variable {X : Cx} {pn : List (Addr × Obj)} {σ : Sl} {H P : Hp} {s : Shared} {c T : Addr} {q : Str}
structure LamAt (X : Cx) (c T : Addr) : Prop where
  code : X.env.code = .ref c
  hd : PySem.W.CodeHd X.base c T
  bm : X.base.BuiltinsAt X.mg T
  ne : mainGlobals ≠ T
  inT : (T, X.env.qual ++ "<lambda>") ∈ tabsOf X.K
end
structure KeyOk (key : D → PyData) (is : D → Bool) (KA : Heap → Value → PyData → Prop) : Prop where
  at_ : ∀ {X : Cx} {pn : List (Addr × Obj)} {σ : Sl} {P H : Hp} {s : Shared} {v : V} {u : Value} {d : D}, Inv X pn σ H s → Under P H → Rel (gd X) P H v d [] → is d = true → RelV v u → KA s.heap u (key d)
  alike : ∀ d d', is d = true → is d' = true → PySem.W.alike (key d) (key d') = true
  sorts : ∀ ds : List D, (∀ d ∈ ds, is d = true) → PySem.W.Sortable (ds.map key)
  deep : ∀ d, (key d).depth ≤ 100
  keeps : ∀ (h h' : Heap) (v : Value) (k : PyData), (∀ b o, h.get? b = some o → h'.get? b = some o) → KA h v k → KA h' v k
end RL
namespace RL
open PySem PySem.Spec PyProof.Rows L2
section
variable {X : Cx} {W : WX} {a : Expr} {S : Env → Res D} {p pos lpos kpos : Pos} {key : D → PyData} {is : D → Bool} {KA : Heap → Value → PyData → Prop}
end
end RL
namespace RL
open PySem PySem.Spec PyProof.Rows L2
structure LamCod (K : PySem.W.Frag) (mg : Str → Option Value) (base : Heap) (f : Addr) (qual : Str) : Prop where
  ex : ∃ c T o, (∀ cdv, Cod K f cdv → cdv = .ref c) ∧ tabOf o = some (T, qual ++ ".<locals>." ++ "<lambda>") ∧ (T, qual ++ ".<locals>." ++ "<lambda>") ∈ tabsOf K ∧ base.get? c = some o ∧ c ≠ T ∧ base.BuiltinsAt mg T ∧ mainGlobals ≠ T
structure KfOk (K : PySem.W.Frag) (mg : Str → Option Value) (name x : Str) (body : Expr) : Prop where
  ex : ∃ g oc od osl fd rp, mg name = some (.ref g) ∧ K.lookup g = some ⟨oc, od, .func fd, osl⟩ ∧ fd.scope.isCoroutine = false ∧ fd.scope.isGenerator = false ∧ fd.scope.kind = .function ∧ fd.body = .stmts [.Return (some body) rp] ∧
    PySem.W.codeIn K fd.code fd.qualname = true ∧ (∀ (s : Shared) (v : Value), BindsTo s fd ⟨[v], []⟩ [(x, v)]) ∧ fd.scope.names.lookup x = some .local ∧ ∀ y ∈ fd.scope.names, y.2 ≠ .cell
section
variable {X : Cx} {W : WX} {a : Expr} {S : Env → Res D} {p pos kpos rpos p2 p3 : Pos} {key : D → PyData} {is : D → Bool} {KA : Heap → Value → PyData → Prop}
end
end RL
namespace RL
open PySem PySem.Spec PyProof.Rows L2
end RL
namespace RL
open PySem PySem.Spec PyProof.Rows L2
mutual
def ownOk : D → Bool
  | .tup ds => ownOkL ds
  | .lst true ds => ownOkL ds
  | .dct true _ _ => false
  | .obj true _ _ ds => ownOkL ds
  | _ => true
def ownOkL : List D → Bool
  | [] => true
  | d :: ds => ownOk d && ownOkL ds
end
mutual
def noFrz : D → Bool
  | .tup ds => noFrzL ds
  | .tux ds => noFrzL ds
  | .lst o ds => o && noFrzL ds
  | .dct o _ ds => o && noFrzL ds
  | .obj o _ _ ds => o && noFrzL ds
  | .exn _ _ _ => false
  | .scr _ => false
  | _ => true
def noFrzL : List D → Bool
  | [] => true
  | d :: ds => noFrz d && noFrzL ds
end
section
variable {G : Gd} {P P' H H' : Hp}
def Kind (o : Option HO) : Prop := (∃ xs, o = some (.lst xs)) ∨ ∃ C dx fs, o = some (.ins C dx fs)
mutual
theorem Rel.kind : ∀ {v : V} {d : D} {A : List Addr}, Rel G P H v d A → ownOk d = true → ∀ b ∈ A, Kind (H b)
  | _, _, _, .tup _ r, h, b, hb => RelL.kind r (by simpa [ownOk] using h) b hb
  | _, _, _, .lstO q r, h, b, hb => (List.mem_cons.mp hb).elim (fun e => e ▸ .inl ⟨_, q⟩) (RelL.kind r (by simpa [ownOk] using h) b)
  | _, _, _, .dctO q _ r, h, b, hb => by simp [ownOk] at h
  | _, _, _, .objO _ q _ r, h, b, hb => (List.mem_cons.mp hb).elim (fun e => e ▸ .inr ⟨_, _, _, q⟩) (RelL.kind r (by simpa [ownOk] using h) b)
  | _, _, _, .non, _, b, hb => by simp at hb
  | _, _, _, .bl _, _, b, hb => by simp at hb
  | _, _, _, .int _, _, b, hb => by simp at hb
  | _, _, _, .str _, _, b, hb => by simp at hb
  | _, _, _, .lstF _ _, _, b, hb => by simp at hb
  | _, _, _, .scr _, _, b, hb => by simp at hb
  | _, _, _, .tux _ _ _, _, b, hb => by simp at hb
  | _, _, _, .dctF _ _ _, _, b, hb => by simp at hb
  | _, _, _, .objF _ _ _ _, _, b, hb => by simp at hb
  | _, _, _, .exn _ _ _, _, b, hb => by simp at hb
theorem RelL.kind : ∀ {vs : List V} {ds : List D} {A : List Addr}, RelL G P H vs ds A → ownOkL ds = true → ∀ b ∈ A, Kind (H b)
  | _, _, _, .nil, _, b, hb => by simp at hb
  | _, _, _, .cons r t, h, b, hb => by
    simp only [ownOkL, Bool.and_eq_true] at h
    exact (List.mem_append.mp hb).elim (Rel.kind r h.1 b) (RelL.kind t h.2 b)
end
def less (P : Hp) (A : List Addr) : Hp := fun b => if b ∈ A then none else P b
theorem less_in {A : List Addr} {b : Addr} (h : b ∈ A) : less P A b = none := if_pos h
theorem less_out {A : List Addr} {b : Addr} (h : b ∉ A) : less P A b = P b := if_neg h
theorem less_some {A : List Addr} {b : Addr} {o : HO} (h : less P A b = some o) : b ∉ A ∧ P b = some o := by
  by_cases hb : b ∈ A
  · rw [less_in hb] at h; cases h
  · rw [less_out hb] at h; exact ⟨hb, h⟩
theorem less_not {A : List Addr} (hA : ∀ b ∈ A, Kind (P b)) {b : Addr} {o : HO} (h : P b = some o) (h1 : ∀ xs, o ≠ .lst xs) (h2 : ∀ C dx fs, o ≠ .ins C dx fs) : less P A b = some o := by
  rw [less_out]
  · exact h
  · intro hb
    rcases hA b hb with ⟨xs, z⟩ | ⟨C, dx, fs, z⟩
    · rw [h] at z; cases z; exact h1 _ rfl
    · rw [h] at z; cases z; exact h2 _ _ _ rfl
mutual
theorem Rel.less {A : List Addr} (hA : ∀ b ∈ A, Kind (P b)) : ∀ {v : V} {d : D} {B : List Addr}, Rel G P H v d B → noFrz d = true → Rel G (RL.less P A) H v d B
  | _, _, _, .non, _ => .non
  | _, _, _, .bl b, _ => .bl b
  | _, _, _, .int i, _ => .int i
  | _, _, _, .str x, _ => .str x
  | _, _, _, .tup q r, h => .tup (by
      rcases q with (q | ⟨o, q⟩) | q
      · exact .inl (.inl (less_not hA q (fun _ z => by cases z) (fun _ _ _ z => by cases z)))
      · exact .inl (.inr ⟨o, less_not hA q (fun _ z => by cases z) (fun _ _ _ z => by cases z)⟩)
      · exact .inr q) (RelL.less hA r (by simpa [noFrz] using h))
  | _, _, _, .tux q e r, h => .tux (less_not hA q (fun _ z => by cases z) (fun _ _ _ z => by cases z)) e (RelL.less hA r (by simpa [noFrz] using h))
  | _, _, _, .scr _, h => by simp [noFrz] at h
  | _, _, _, .lstF _ _, h => by simp [noFrz] at h
  | _, _, _, .lstO q r, h => .lstO q (RelL.less hA r (by simpa [noFrz] using h))
  | _, _, _, .dctF _ _ _, h => by simp [noFrz] at h
  | _, _, _, .dctO q l r, h => .dctO q l (RelL.less hA r (by simpa [noFrz] using h))
  | _, _, _, .objF _ _ _ _, h => by simp [noFrz] at h
  | _, _, _, .objO c q l r, h => .objO c q l (RelL.less hA r (by simpa [noFrz] using h))
  | _, _, _, .exn _ _ _, h => by simp [noFrz] at h
theorem RelL.less {A : List Addr} (hA : ∀ b ∈ A, Kind (P b)) : ∀ {vs : List V} {ds : List D} {B : List Addr}, RelL G P H vs ds B → noFrzL ds = true → RelL G (RL.less P A) H vs ds B
  | _, _, _, .nil, _ => .nil
  | _, _, _, .cons r t, h => by
    simp only [noFrzL, Bool.and_eq_true] at h
    exact .cons (Rel.less hA r h.1) (RelL.less hA t h.2)
end
theorem XRel.less {A : List Addr} (hA : ∀ b ∈ A, Kind (P b)) {cls : Value} {dx : Option Addr} {x : D} (h : XRel G P cls dx x) : XRel G (RL.less P A) cls dx x := by
  obtain ⟨c, ns, ds, C, e1, e2, e3, e4⟩ := h
  refine ⟨c, ns, ds, C, e1, e2, e3, ?_⟩
  rcases e4 with z | ⟨z0, d, vs, z1, z2, z3, z4⟩
  · exact .inl z
  · exact .inr ⟨z0, d, vs, z1, less_not hA z2 (fun _ z => by cases z) (fun _ _ _ z => by cases z), z3, z4⟩
theorem lend_ext {P H P1 H1 P' H' : Hp} {B : List Addr} (u : Under P H) (e : Ext P H P1 H1 []) (off : ∀ b ∈ B, P1 b = none) (hk : ∀ b ∈ B, Kind (H1 b)) (e3 : Ext (give P1 H1 B) H1 P' H' []) :
    (∀ b ∈ B, Kind (P' b)) ∧ Ext P H (RL.less P' B) H' [] := by
  have s2 : Same P1 (give P1 H1 B) := give_same off
  have hA : ∀ b ∈ B, P' b = H1 b := fun b hb => by
    rcases hk b hb with ⟨xs, z⟩ | ⟨C, dx, fs, z⟩
    · rw [z]; exact e3.same _ _ (by rw [give_in hb, z])
    · rw [z]; exact e3.same _ _ (by rw [give_in hb, z])
  have hP : ∀ b ∈ B, Kind (P' b) := fun b hb => by rw [hA b hb]; exact hk b hb
  have hH : ∀ b ∈ B, H' b = H1 b := fun b hb => by
    rcases hk b hb with ⟨xs, z⟩ | ⟨C, dx, fs, z⟩
    · rcases e3.und b _ ((hA b hb).trans z) with q | ⟨_, _, q, _⟩ | ⟨_, _, q, _⟩
      · rw [q, z]
      · cases q
      · cases q
    · rcases e3.und b _ ((hA b hb).trans z) with q | ⟨_, _, q, _⟩ | ⟨_, _, q, _⟩
      · rw [q, z]
      · cases q
      · cases q
  refine ⟨hP, ⟨fun b o h => ?_, fun b o h => ?_, fun b o h hn _ => ?_, fun b o w h => e3.lck _ _ _ (e.lck _ _ _ h), fun b o h => ?_⟩⟩
  · have h1 := e.same _ _ h
    rw [less_out]
    · exact e3.same _ _ (s2 _ _ h1)
    · intro hb
      rw [off b hb] at h1; cases h1
  · obtain ⟨hb, h⟩ := less_some h
    rcases e3.und b o h with z | z | ⟨q, ps, z1, z2, z3, z4⟩
    · exact .inl z
    · exact .inr (.inl z)
    · refine .inr (.inr ⟨q, ps, z1, z2, z3, fun pos cv hc => ?_⟩)
      obtain ⟨c, c1, c2⟩ := z4 pos cv hc
      exact ⟨c, c1, less_not hP c2 (fun _ z => by cases z) (fun _ _ _ z => by cases z)⟩
  · have h1 := e.keep b o h hn (by simp)
    by_cases hb : b ∈ B
    · rw [hH b hb]; exact h1
    · refine e3.keep b o h1 ?_ (by simp)
      rw [give_out hb]
      cases q : P1 b with
      | none => rfl
      | some w =>
        rcases e.new b w q with z | z | z
        · rw [hn] at z; cases z
        · rw [h] at z; cases z
        · simp at z
  · obtain ⟨hb, h⟩ := less_some h
    rcases e3.new b o h with z | z | z
    · rw [give_out hb] at z; exact e.new b o z
    · exact .inr (.inl (e.free u z))
    · simp at z
end
section
variable {X : Cx} {W : WX} {k : Nat} {f : Addr} {fd : FuncData} {ps : List Str} {sp : Sp} {x : Str} {p pos : Pos} {e : Expr} {es : List Expr}
def sFz (S : Env → Res D) : Env → Res D := fun ρ => (S ρ).bind fun d => .ok d.frz
@[simp] theorem sFz_ap {S : Env → Res D} {ρ : Env} : sFz S ρ = (S ρ).bind fun d => .ok d.frz := rfl
end
end RL
namespace RL
open PySem PySem.Spec PyProof.Rows L2
section
variable {X : Cx} {W : WX} {e : Expr} {S : Env → Res D} {td : TE} {p apos cpos pos : Pos}
end
end RL
namespace RL
open PySem PySem.Spec PyProof.Rows L2
def unl (H : Hp) (B : List Addr) : Hp := fun b => if b ∈ B then (match H b with
  | some (.frz _ u) => some u
  | x => x) else H b
section
variable {G : Gd} {P P' H H' : Hp}
def KindD (o : Option HO) : Prop := Kind o ∨ ∃ kvs, o = some (.dK kvs)
mutual
theorem Rel.kindD : ∀ {v : V} {d : D} {A : List Addr}, Rel G P H v d A → ∀ b ∈ A, KindD (H b)
  | _, _, _, .tup _ r, b, hb => RelL.kindD r b hb
  | _, _, _, .lstO q r, b, hb => (List.mem_cons.mp hb).elim (fun e => e ▸ .inl (.inl ⟨_, q⟩)) (RelL.kindD r b)
  | _, _, _, .dctO q _ r, b, hb => (List.mem_cons.mp hb).elim (fun e => e ▸ .inr ⟨_, q⟩) (RelL.kindD r b)
  | _, _, _, .objO _ q _ r, b, hb => (List.mem_cons.mp hb).elim (fun e => e ▸ .inl (.inr ⟨_, _, _, q⟩)) (RelL.kindD r b)
  | _, _, _, .non, b, hb => by simp at hb
  | _, _, _, .bl _, b, hb => by simp at hb
  | _, _, _, .int _, b, hb => by simp at hb
  | _, _, _, .str _, b, hb => by simp at hb
  | _, _, _, .lstF _ _, b, hb => by simp at hb
  | _, _, _, .scr _, b, hb => by simp at hb
  | _, _, _, .tux _ _ _, b, hb => by simp at hb
  | _, _, _, .dctF _ _ _, b, hb => by simp at hb
  | _, _, _, .objF _ _ _ _, b, hb => by simp at hb
  | _, _, _, .exn _ _ _, b, hb => by simp at hb
theorem RelL.kindD : ∀ {vs : List V} {ds : List D} {A : List Addr}, RelL G P H vs ds A → ∀ b ∈ A, KindD (H b)
  | _, _, _, .nil, b, hb => by simp at hb
  | _, _, _, .cons r t, b, hb => (List.mem_append.mp hb).elim (Rel.kindD r b) (RelL.kindD t b)
end
end
section
variable {X : Cx} {W : WX} {k : Nat} {f : Addr} {fd : FuncData} {ps : List Str} {x : Str} {p pos : Pos} {e : Expr} {es : List Expr}
theorem StRel.view {G : Gd} {P H : Hp} {σ : Sl} {ρ : Env} {A : List Addr} {i : Nat} {d : D} (st : StRel G P H σ ρ A) (h : ρ[i]? = some (some d)) : ∃ B A', (∀ b ∈ B, P b = none) ∧ (∀ b ∈ B, KindD (H b)) ∧ StRel G (give P H B) H σ (ρ.set i (some d.frz)) A' := by
  have hi : i < ρ.length := (List.getElem?_eq_some_iff.mp h).1
  obtain ⟨B, C, p, q, hv⟩ := st.env.out hi
  rcases hv with ⟨d', v, h1, h2, r⟩ | ⟨h1, _⟩
  · rw [h] at h1
    cases h1
    have bA : ∀ b ∈ B, b ∈ A := fun b hb => p.symm.subset (List.mem_append_left _ hb)
    have cA : ∀ b ∈ C, b ∈ A := fun b hb => p.symm.subset (List.mem_append_right _ hb)
    have off : ∀ b ∈ B, P b = none := fun b hb => st.off b (bA b hb)
    have g := give_ext (A := B) st.und off
    obtain ⟨n1, n2, n3⟩ := List.nodup_append.mp (p.nodup_iff.mp st.nd)
    have rf : Rel G (give P H B) H v d.frz [] := r.frz g.same fun b hb => give_in hb
    have qc : EnvRel G (give P H B) H σ (ρ.set i none) C := q.mono g.same fun _ _ => rfl
    obtain ⟨A', p', q'⟩ := qc.put (i := i) rf (by simpa using hi) (by simp [hi])
    rw [List.set_set, EnvRel.set_same h2] at q'
    refine ⟨B, A', off, r.kindD, ⟨g.und, q', p'.symm.nodup_iff.mp (by simpa using n2), fun b hb => ?_, st.mks.mono g.same⟩⟩
    have hb : b ∈ C := by simpa using p'.subset hb
    rw [give_out fun z => n3 b z b hb rfl]
    exact st.off b (cA b hb)
  · rw [h] at h1; cases h1
end
end RL
namespace RL
open PySem PySem.Spec PyProof.Rows L2
section
variable {ρ : Env}
@[simp] theorem sIter_ap {S : Env → Res D} : sIter S ρ = (S ρ).bind fun d => opt (iterD d) := rfl
@[simp] theorem sVals_ap {S : Env → Res D} : sVals S ρ = (S ρ).bind fun d => opt (valsD d) := rfl
@[simp] theorem sItems_ap {S : Env → Res D} : sItems S ρ = (S ρ).bind fun d => opt (itemsD d) := rfl
@[simp] theorem iterD_l {o : Bool} {ds : List D} (h : cleanL ds = true) : iterD (.lst o ds) = some ds := by simp [iterD, h]
@[simp] theorem iterD_t {ds : List D} (h : cleanL ds = true) : iterD (.tup ds) = some ds := by simp [iterD, h]
@[simp] theorem iterD_scr {ns : List Int} : iterD (.scr ns) = some (ns.map .int) := rfl
@[simp] theorem iterD_s {x : Str} : iterD (.str x) = some (x.cps.toList.map fun c => .str ⟨#[c]⟩) := rfl
@[simp] theorem sM1_ap {f : Str → D → Option D} {So Sa : Env → Res D} : sM1 f So Sa ρ = (So ρ).bind fun x => match x with
  | .str a => (Sa ρ).bind fun y => opt (f a y)
  | _ => .bad := rfl
@[simp] theorem sFld_ap {cs : List Str} {f : Str} {S : Env → Res D} : sFld cs f S ρ = (S ρ).bind fun d => opt (getF cs f d) := rfl
@[simp] theorem plVar_ap {i : Nat} {d : D} (h : ρ[i]? = some (some d)) : plVar i ρ = .ok ⟨d, fun d' => ρ.set i (some d')⟩ := by simp [plVar, h]
@[simp] theorem plIx_ap {Pa : Env → Res Plc} {Sb : Env → Res D} : plIx Pa Sb ρ = (Pa ρ).bind fun p => (Sb ρ).bind fun y => opt ((chIx p.at_ y).map p.sub) := rfl
@[simp] theorem plFld_ap {cs : List Str} {f : Str} {Pa : Env → Res Plc} : plFld cs f Pa ρ = (Pa ρ).bind fun p => opt ((chFld cs f p.at_).map p.sub) := rfl
@[simp] theorem sMut_ap {f : D → List D → Option D} {Pl : Env → Res Plc} {Sa : Env → Res (List D)} : sMut f Pl Sa ρ = (Pl ρ).stm ρ fun p => if isLstO p.at_ = true then (Sa ρ).stm ρ fun ds => put ((f p.at_ ds).map p.set) else .bad := by
  unfold sMut Res.stm put
  cases Pl ρ with
  | ok p =>
    simp only
    split
    · cases Sa ρ with
      | ok ds => simp only; cases f p.at_ ds <;> rfl
      | _ => rfl
    · rfl
  | _ => rfl
@[simp] theorem sPutD_ap {fz : Bool} {Pl : Env → Res Plc} {Sk Se : Env → Res D} : sPutD fz Pl Sk Se ρ = (Se ρ).stm ρ fun d => (Pl ρ).stm ρ fun p => (Sk ρ).stm ρ fun k => put ((putD k (if fz then d.frz else d) p.at_).map p.set) := by
  unfold sPutD Res.stm put
  cases Se ρ with
  | ok d =>
    simp only
    cases Pl ρ with
    | ok p =>
      simp only
      cases Sk ρ with
      | ok k => simp only; cases putD k (if fz = true then d.frz else d) p.at_ <;> rfl
      | _ => rfl
    | _ => rfl
  | _ => rfl
@[simp] theorem sSetF_ap {cs : List Str} {f : Str} {fz : Bool} {Pl : Env → Res Plc} {S : Env → Res D} : sSetF cs f fz Pl S ρ = (S ρ).stm ρ fun d => (Pl ρ).stm ρ fun p => put ((setF cs f (if fz then d.frz else d) p.at_).map p.set) := by
  unfold sSetF Res.stm put
  cases S ρ with
  | ok d =>
    simp only
    cases Pl ρ with
    | ok p => simp only; cases setF cs f (if fz = true then d.frz else d) p.at_ <;> rfl
    | _ => rfl
  | _ => rfl
@[simp] theorem put_none : put none = .bad := rfl
@[simp] theorem isLstO_t {ds : List D} : isLstO (.lst true ds) = true := rfl
@[simp] theorem sRaise_ap {c : Str} : sRaise c ρ = .exc (.exn c [] []) ρ := rfl
@[simp] theorem sMeth_ap {m : Str} {tab : List (Str × (List D → FR))} {n : Nat} {So : Env → Res D} {Ss : Env → Res (List D)} : sMeth m tab n So Ss ρ = (So ρ).bind fun o => match o with
  | .obj _ c ns _ => if m ∉ ns then (match tabGo tab c with
    | some φ => (Ss ρ).bind fun ds => if ds.length + 1 = n then (φ (frzL (o :: ds))).res else .bad
    | none => .bad) else .bad
  | _ => .bad := by
  unfold sMeth
  cases So ρ with
  | ok o =>
    simp only [bind_ok]
    cases o <;> rfl
  | _ => rfl
@[simp] theorem sMake_ap {c : Str} {n : Nat} {φ : List D → FR} {S : Env → Res (List D)} : sMake c n φ S ρ = (S ρ).bind fun ds => mkRes c n φ ds := rfl
@[simp] theorem endF_nx1 {d : D} {ρ : Env} (h : ρ[0]? = some (some d)) : endF [0] (.nx ρ) = .ok .non [d] := by simp [endF, outsOf, h]
@[simp] theorem mAppend_l {ds : List D} {d : D} : mAppend (.lst true ds) [d] = if ds.length < sizeLine then some (.lst true (ds ++ [d])) else none := by
  simp [mAppend]
theorem sLc_ok {Si : Env → Res (List D)} {t : Tg} {vs : List Nat} {T : Env → Res Bool} {E : Env → Res D} {ds es : List D} (h : Si ρ = .ok ds) (hl : ds.length ≤ sizeLine) (hr : lcRun (lcOne t vs T E ρ) ds = some es) : sLc Si t vs T E ρ = .ok (.lst true es) := by
  simp [sLc, h, hl, hr]
end
theorem lcRun_of {α : Type} {e : α → D} {g : α → D} {f : D → Res (Option D)} : ∀ {xs : List α}, (∀ x ∈ xs, f (e x) = .ok (some (g x))) → lcRun f (xs.map e) = some (xs.map g)
  | [], _ => rfl
  | x :: xs, h => by
    rw [List.map_cons, lcRun, h x List.mem_cons_self]
    simp only
    rw [lcRun_of fun e he => h e (List.mem_cons_of_mem _ he)]
    rfl
theorem lcRun_fm {α : Type} {e : α → D} {g : α → Option D} {f : D → Res (Option D)} : ∀ {xs : List α}, (∀ x ∈ xs, f (e x) = .ok (g x)) → lcRun f (xs.map e) = some (xs.filterMap g)
  | [], _ => rfl
  | x :: xs, h => by
    rw [List.map_cons, lcRun, h x List.mem_cons_self, List.filterMap_cons]
    have ih := lcRun_fm (e := e) (g := g) (f := f) fun e he => h e (List.mem_cons_of_mem _ he)
    cases g x with
    | none => exact ih
    | some y => simp only; rw [ih]; rfl
theorem lcRun_fl {α : Type} {e g : α → D} {p : α → Bool} {f : D → Res (Option D)} {xs : List α} (h : ∀ x ∈ xs, f (e x) = .ok (if p x = true then some (g x) else none)) : lcRun f (xs.map e) = some ((xs.filter p).map g) := by
  rw [lcRun_fm h]
  congr 1
  induction xs with
  | nil => rfl
  | cons x xs ih =>
    have ih := ih fun y hy => h y (List.mem_cons_of_mem _ hy)
    rw [List.filterMap_cons, List.filter_cons]
    cases p x with
    | true => simp [ih]
    | false => simp [ih]
theorem for_inv {t : Tg} {S : Env → SRes} (I : Nat → Env → Prop) : ∀ {ds : List D} {k : Nat} {ρ : Env}, I k ρ → (∀ i d ρ, ds[i]? = some d → I (k + i) ρ → ∃ ρ1 ρ2, t.set d ρ = some ρ1 ∧ S ρ1 = .nx ρ2 ∧ I (k + i + 1) ρ2) → ∃ ρ', forRun t S ds ρ = .nx ρ' ∧ I (k + ds.length) ρ'
  | [], k, ρ, h, _ => ⟨ρ, rfl, h⟩
  | d :: ds, k, ρ, h, st => by
    obtain ⟨ρ1, ρ2, h1, h2, h3⟩ := st 0 d ρ rfl h
    obtain ⟨ρ', q1, q2⟩ := for_inv I (ds := ds) (k := k + 1) h3 fun i d ρ hd hi => by
      have := st (i + 1) d ρ (by simpa using hd) (by rw [show k + (i + 1) = k + 1 + i by omega]; exact hi)
      rw [show k + (i + 1) + 1 = k + 1 + i + 1 by omega] at this
      exact this
    refine ⟨ρ', ?_, by rw [List.length_cons, show k + (ds.length + 1) = k + 1 + ds.length by omega]; exact q2⟩
    rw [forRun_cons, h1, put_some, andThen_nx, h2, loopK_nx, q1]
theorem cut_nn {α : Type} (xs : List α) (i j : Nat) : cutL xs (some (i : Int)) (some (j : Int)) = (xs.drop i).take (j - i) := by
  unfold cutL
  rw [HT.sIx_nat, HT.sIx_nat]
  by_cases h : i ≤ xs.length
  · rw [Nat.min_eq_left h]
    by_cases h2 : j ≤ xs.length
    · rw [Nat.min_eq_left h2]
    · rw [Nat.min_eq_right (by omega), List.take_of_length_le (by rw [List.length_drop]; omega), List.take_of_length_le (by rw [List.length_drop]; omega)]
  · rw [Nat.min_eq_right (a := i) (by omega), List.drop_of_length_le (Nat.le_refl _), List.drop_of_length_le (by omega)]
    simp
theorem cut_0n {α : Type} (xs : List α) (j : Nat) : cutL xs none (some (j : Int)) = xs.take j := by
  unfold cutL
  rw [HT.sIx_nat, HT.sIx_none]
  by_cases h2 : j ≤ xs.length
  · rw [Nat.min_eq_left h2]; rfl
  · rw [Nat.min_eq_right (by omega), Nat.sub_zero, List.drop_zero, List.take_of_length_le (Nat.le_refl _), List.take_of_length_le (by omega)]
theorem cut_n0 {α : Type} (xs : List α) (i : Nat) : cutL xs (some (i : Int)) none = xs.drop i := by
  unfold cutL
  rw [HT.sIx_nat, HT.sIx_none]
  by_cases h2 : i ≤ xs.length
  · rw [Nat.min_eq_left h2, List.take_of_length_le (by rw [List.length_drop]; omega)]
  · rw [Nat.min_eq_right (by omega), List.drop_of_length_le (Nat.le_refl _), List.drop_of_length_le (by omega)]; simp
theorem opSl_l {o : Bool} {ds : List D} {lo hi : Option Int} (h : cleanL ds = true) : opSl (.lst o ds) lo hi = some (.lst true (cutL ds lo hi)) := by simp [opSl, h]
@[simp] theorem opAdd_s {x y : Str} (h : x.length + y.length ≤ sizeLine) : opAdd (.str x) (.str y) = some (.str (x ++ y)) := by simp [opAdd, h]
theorem opAdd_l {o o' : Bool} {xs ys : List D} (h : cleanL xs = true) (h' : cleanL ys = true) (hl : xs.length + ys.length ≤ sizeLine) : opAdd (.lst o xs) (.lst o' ys) = some (.lst true (xs ++ ys)) := by simp [opAdd, h, h', hl]
@[simp] theorem cleanL_strs {ns : List Str} : cleanL (ns.map .str) = true := cleanL_all.mpr fun d hd => by
  obtain ⟨i, _, rfl⟩ := List.mem_map.mp hd
  rfl
@[simp] theorem frzL_strs : ∀ {ns : List Str}, frzL (ns.map .str) = ns.map .str
  | [] => by simp [frzL]
  | n :: ns => by simp [frzL, D.frz, frzL_strs (ns := ns)]
theorem strsD_map : ∀ ys : List Str, strsD (ys.map .str) = some ys
  | [] => rfl
  | y :: ys => by simp [strsD, strsD_map ys]
theorem intsD_map : ∀ ys : List Int, intsD (ys.map .int) = some ys
  | [] => rfl
  | y :: ys => by simp [intsD, intsD_map ys]
@[simp] theorem fLenX_l {o : Bool} {ds : List D} : fLenX (.lst o ds) = some (.int ds.length) := rfl
@[simp] theorem fLenX_t {ds : List D} : fLenX (.tup ds) = some (.int ds.length) := rfl
@[simp] theorem fLenX_scr {ns : List Int} : fLenX (.scr ns) = some (.int ns.length) := rfl
theorem mod_pos' {i j : Int} (h : 0 < j) : opMod (.int i) (.int j) = some (.int (i % j)) := by rw [opMod_i (by omega), Int.fmod_eq_emod_of_nonneg _ (by omega)]
theorem fdiv_pos' {i j : Int} (h : 0 < j) (q : sml j = true) : opFdiv (.int i) (.int j) = some (.int (i / j)) := by rw [opFdiv_i (by omega) q, Int.fdiv_eq_ediv_of_nonneg _ (by omega)]
theorem ix_mem {α : Type} {xs : List α} {r : Int} (h0 : 0 ≤ r) (h : r < xs.length) : ∃ v, atI xs r = some v ∧ v ∈ xs := by
  obtain ⟨n, rfl⟩ := Int.eq_ofNat_of_zero_le h0
  rw [atI_nat]
  have : n < xs.length := by omega
  exact ⟨xs[n], List.getElem?_eq_getElem this, List.getElem_mem this⟩
theorem putKs_new {ks : List Key} {k : Key} (h : k ∉ ks) : ixOf ks k = none := by
  induction ks with
  | nil => rfl
  | cons a ks ih =>
    simp only [List.mem_cons, not_or] at h
    simp only [ixOf]
    rw [if_neg fun z => h.1 z.symm, ih h.2]
    rfl
abbrev sk (x : Str) : Key := .inr x
end RL
namespace RL
open PySem PySem.Spec PyProof.Rows L2
def repS (x : Str) (n : Nat) : Str := ⟨(List.replicate n x.cps.toList).flatten.toArray⟩
theorem fold_rep (a : Array Nat) : ∀ (n : Nat) (acc : Array Nat), (List.replicate n a).foldl (· ++ ·) acc = (acc.toList ++ (List.replicate n a.toList).flatten).toArray
  | 0, acc => by simp
  | n + 1, acc => by
    rw [List.replicate_succ, List.foldl_cons, fold_rep a n]
    simp [List.replicate_succ, List.append_assoc]
theorem repS_eq (x : Str) (n : Nat) : (⟨(List.replicate n x.cps).foldl (· ++ ·) #[]⟩ : Str) = repS x n := by
  unfold repS
  rw [fold_rep]
  simp
def opMulA : D → D → Option D
  | .str x, .int n => if 0 ≤ n ∧ n ≤ 1000 ∧ x.length ≤ 1000 then some (.str (repS x n.toNat)) else none
  | x, y => opMul x y
theorem o_mulA {X : Cx} : OpR X (binaryOp .Mult) (rD (gd X) opMulA) := by
  intro pins s σ H x y v u Q I rx ry ⟨P, dx, dy, Bx, By, un, r1, r2, o1, o2, h⟩
  by_cases c : ∃ a n, dx = .str a ∧ dy = .int n
  · obtain ⟨a, n, rfl, rfl⟩ := c
    cases r1
    cases r2
    obtain ⟨t, rfl⟩ := rx
    obtain ⟨t', rfl⟩ := ry
    simp only [opMulA] at h
    by_cases c : 0 ≤ n ∧ n ≤ 1000 ∧ a.length ≤ 1000
    · rw [if_pos c] at h
      obtain ⟨c1, c2, c3⟩ := c
      have fin : ∀ t', ∃ v' H', Inv X pins σ H' { s with toks := s.toks + 1 } ∧ RelV v' (.str (repS a n.toNat) t') ∧ Q v' H' := fun t' => ⟨.str (repS a n.toNat), H, I.tok _, ⟨_, rfl⟩, post_val un h (.str _)⟩
      have hl : a.length * n.toNat ≤ 1000 * 1000 := Nat.mul_le_mul c3 (by omega)
      refine PySem.P.mul_str (by
        have h1 : ¬ n < -(2 ^ 63 : Int) := by omega
        have h2 : ¬ n ≥ 2 ^ 63 := by omega
        rw [decide_eq_false h1, decide_eq_false h2]; rfl) (fun h1 h2 => ?_) (fun h1 h2 => ?_) ?_
      · have m : (a.length : Int) * n ≤ 1000 * 1000 := Int.mul_le_mul (by omega) c2 (by omega) (by omega)
        have q : (a.length : Int) ≤ (2 ^ 63 - 1) / n := (Int.le_ediv_iff_mul_le (by omega)).mpr (by omega)
        omega
      · unfold Builtin.Str.tooLong
        exact decide_eq_false (by unfold sizeLine; omega)
      · by_cases h1 : n < 1
        · rw [if_pos h1]
          have : n = 0 := by omega
          subst this
          exact ⟨by decide, ⟨.str Str.empty, H, I.tok _, ⟨_, rfl⟩, by
            have e : repS a (0 : Int).toNat = Str.empty := rfl
            rw [e] at h
            exact post_val un h (.str _)⟩⟩
        · rw [if_neg h1]
          by_cases h2 : (n == 1 || a.length == 0) = true
          · rw [if_pos h2]
            have e : repS a n.toNat = a := by
              rw [Bool.or_eq_true] at h2
              rcases h2 with h2 | h2
              · have : n = 1 := by simpa using h2
                subst this
                simp [repS]
              · have : a.cps.size = 0 := by simpa [Str.length] using h2
                have : a.cps = #[] := Array.eq_empty_of_size_eq_zero this
                obtain ⟨cps⟩ := a
                simp only at this
                subst this
                simp [repS]
            rw [e] at h
            exact ⟨.str a, H, I, ⟨_, rfl⟩, post_val un h (.str _)⟩
          · rw [if_neg h2, repS_eq]
            refine ⟨?_, fin _⟩
            have : (repS a n.toNat).length = a.length * n.toNat := by
              simp [repS, Str.length, Nat.mul_comm]
            rw [this]
            unfold sizeLine
            omega
    · rw [if_neg c] at h; exact h.elim
  · refine o_mul pins s σ H x y v u Q I rx ry ⟨P, dx, dy, Bx, By, un, r1, r2, o1, o2, ?_⟩
    have e : opMulA dx dy = opMul dx dy := by
      unfold opMulA
      split
      · exact absurd ⟨_, _, rfl, rfl⟩ c
      · rfl
    rw [← e]
    exact h
end RL
namespace RL
open PySem PySem.Spec PyProof.Rows L2
inductive CRes where
  | ok (d : D) (ρ : Env) | exc (x : D) (ρ : Env) | bad
def tC (G : Gd) (W : WX) (L : List Nat) (C : Env → CRes) : TE := fun σ H Q => ∃ P ρ A, StRel G P H σ ρ A ∧ match C ρ with
  | .ok d ρ' => ∀ v P' H' A' B, After G P H σ A L P' H' σ ρ' A' → Rel G P' H' v d B → (B ++ A').Nodup → (∀ b ∈ B, P' b = none ∧ (H b = none ∨ b ∈ A)) → Q v H'
  | .exc x ρ' => ∀ cls dx P' H' A', After G P H σ A L P' H' σ ρ' A' → XRel G P' cls dx x → W cls dx σ H'
  | .bad => False
structure COk (X : Cx) (W : WX) (L : List Nat) (e : Expr) (C : Env → CRes) : Prop where pe : PE X e (tC (gd X) W L C)
section
variable {X : Cx} {W : WX} {L : List Nat} {pos apos : Pos} {e o : Expr} {es : List Expr} {C : Env → CRes} {Pl : Env → Res Plc} {Ss : Env → Res (List D)} {c m : Str} {k : Nat} {ps : List Str} {φ : List D → FR}
def cMeth (c m : Str) (n : Nat) (φ : List D → FR) (Pl : Env → Res Plc) (Ss : Env → Res (List D)) : Env → CRes := fun ρ => match Pl ρ with
  | .ok p => (match p.at_ with
    | .obj true c' ns ds => if c' = c ∧ m ∉ ns then (match Ss ρ with
      | .ok es => if es.length + 1 = n then (match φ (.obj true c' ns ds :: frzL es) with
        | .ok d [o'] => .ok d (p.set o')
        | .exc x [o'] => .exc x (p.set o')
        | _ => .bad) else .bad
      | .exc x => .exc x ρ
      | .bad => .bad) else .bad
    | _ => .bad)
  | .exc x => .exc x ρ
  | .bad => .bad
theorem Foc.call {G : Gd} {P0 H0 P H P' H' : Hp} {σ : Sl} {ρ : Env} {A B R C : List Addr} {p : Plc} {v : V} {o' : D} (st : StRel G P0 H0 σ ρ A) (x : Ext P0 H0 P H []) (q : A.Perm (B ++ R))
    (w : ∀ P' H' e' B', Same P P' → (∀ b ∈ R, H' b = H b) → Rel G P' H' v e' B' → ∃ A', EnvRel G P' H' σ (p.set e') A' ∧ A'.Perm (B' ++ R)) (x3 : Ext P H P' H' B) (rc : Rel G P' H' v o' C) (nc : C.Nodup) (fc : ∀ b ∈ C, P' b = none ∧ (H b = none ∨ b ∈ B)) :
    ∃ A', After G P0 H0 σ A L P' H' σ (p.set o') A' ∧ A'.Perm (C ++ R) := by
  have hB : ∀ b ∈ B, b ∈ A := fun b hb => q.symm.subset (List.mem_append_left _ hb)
  have hR : ∀ b ∈ R, b ∈ A := fun b hb => q.symm.subset (List.mem_append_right _ hb)
  have st1 := st.ext x
  obtain ⟨n1, n2, n3⟩ := List.nodup_append.mp (q.nodup_iff.mp st.nd)
  have nRB : ∀ b ∈ R, b ∉ B := fun b hb z => n3 b z b hb rfl
  have atR : ∀ b ∈ R, ∃ oo, H b = some oo := fun b hb => st1.env.at b (hR b hb)
  have offR : ∀ b ∈ R, P b = none := fun b hb => st1.off b (hR b hb)
  obtain ⟨A', env, pm⟩ := w P' H' o' C x3.same (fun b hb => by
    obtain ⟨oo, ho⟩ := atR b hb
    rw [ho, x3.keep b oo ho (offR b hb) (nRB b hb)]) rc
  have offR' : ∀ b ∈ R, P' b = none := fun b hb => by
    cases z : P' b with
    | none => rfl
    | some u =>
      rcases x3.new b u z with y | y | y
      · rw [offR b hb] at y; cases y
      · obtain ⟨oo, ho⟩ := atR b hb
        rw [ho] at y; cases y
      · exact absurd y (nRB b hb)
  refine ⟨A', ⟨(x.more).transA st.und x3 fun b hb => .inr (hB b hb), ⟨x3.und, env, ?_, fun b hb => ?_, st1.mks.mono x3.same⟩, fun b hb => ?_, rfl, fun _ _ => rfl⟩, pm⟩
  · refine pm.nodup_iff.mpr (List.nodup_append.mpr ⟨nc, n2, fun y hy z hz e => ?_⟩)
    rcases (fc y hy).2 with u | u
    · obtain ⟨oo, ho⟩ := atR z hz
      rw [← e, u] at ho; cases ho
    · exact nRB z hz (e ▸ u)
  · rcases List.mem_append.mp (pm.subset hb) with z | z
    · exact (fc b z).1
    · exact offR' b z
  · rcases List.mem_append.mp (pm.subset hb) with z | z
    · rcases (fc b z).2 with y | y
      · exact .inl (x.free st.und y)
      · exact .inr (hB b y)
    · exact .inr (hR b z)
theorem pick0 {v : V} {vs : List V} : pick [0] (v :: vs) = [v] := rfl
theorem spF_pl {G : Gd} {P0 H0 P H P1 H1 : Hp} {σ : Sl} {ρ : Env} {A B2 : List Addr} {p : Plc} {v : V} {vs : List V} {es : List D} {n : Nat} {Q : VK} {E : XK} {W : WX} (st : StRel G P0 H0 σ ρ A) (x : Ext P0 H0 P H []) (F : Foc G P H σ A v p) (e2 : Ext P H P1 H1 []) (r2 : RelL G P1 H1 vs es B2) (f2 : Fresh P1 H B2)
    (hn : es.length + 1 = n) (h : match (match φ (p.at_ :: frzL es) with
        | .ok d [o'] => CRes.ok d (p.set o')
        | .exc x [o'] => .exc x (p.set o')
        | _ => .bad) with
      | .ok d ρ' => ∀ v P' H' A' B, After G P0 H0 σ A L P' H' σ ρ' A' → Rel G P' H' v d B → (B ++ A').Nodup → (∀ b ∈ B, P' b = none ∧ (H0 b = none ∨ b ∈ A)) → Q v H'
      | .exc x ρ' => ∀ cls dx P' H' A', After G P0 H0 σ A L P' H' σ ρ' A' → XRel G P' cls dx x → W cls dx σ H'
      | .bad => False) (hE : ∀ cls d H', W cls d σ H' → E cls d H') : spF G n [0] φ (v :: vs) H1 Q E := by
  have st1 := st.ext x
  obtain ⟨e3, sm⟩ := give_ext0 st1.und e2 f2
  obtain ⟨B, R, r, q, w⟩ := F.ext st1 e3
  have st3 := st1.ext e3
  have hB : ∀ b ∈ B, b ∈ A := fun b hb => q.symm.subset (List.mem_append_left _ hb)
  have hR : ∀ b ∈ R, b ∈ A := fun b hb => q.symm.subset (List.mem_append_right _ hb)
  obtain ⟨n1, n2, n3⟩ := List.nodup_append.mp (q.nodup_iff.mp st.nd)
  have x3 := x.trans st.und e3
  have rl : RelL G (give P1 H1 B2) H1 (v :: vs) (p.at_ :: frzL es) B := by
    have := RelL.cons r (r2.frz sm fun b hb => give_in hb)
    simpa using this
  refine ⟨by rw [List.length_cons, r2.length]; exact hn, give P1 H1 B2, p.at_ :: frzL es, B, e3.und, st3.mks, rl, n1, fun b hb => st3.off b (hB b hb), ?_⟩
  have hi : ∀ {b}, H1 b = none ∨ b ∈ B → H0 b = none ∨ b ∈ A := fun h => h.imp (fun z => x3.free st.und z) fun z => hB _ z
  cases hφ : φ (p.at_ :: frzL es) with
  | bad => rw [hφ] at h; exact h.elim
  | ok d os =>
    rw [hφ] at h
    match os, h with
    | [], h => exact h.elim
    | _ :: _ :: _, h => exact h.elim
    | [o'], h =>
      intro u P' H' B' C' x4 ru rc nd fr
      rw [pick0] at rc
      cases rc with
      | @cons _ _ C _ _ _ rc1 rc2 =>
        cases rc2
        rw [List.append_nil] at nd fr
        obtain ⟨m1, m2, m3⟩ := List.nodup_append.mp nd
        obtain ⟨A', af, pm⟩ := Foc.call (L := L) st x3 q w x4 rc1 m2 fun b hb => fr b (List.mem_append_right _ hb)
        refine h u P' H' A' B' af ru ?_ fun b hb => ⟨(fr b (List.mem_append_left _ hb)).1, hi (fr b (List.mem_append_left _ hb)).2⟩
        refine List.nodup_append.mpr ⟨m1, af.st.nd, fun y hy z hz e => ?_⟩
        subst e
        rcases List.mem_append.mp (pm.subset hz) with k | k
        · exact m3 y hy y k rfl
        · rcases (fr y (List.mem_append_left _ hy)).2 with g | g
          · obtain ⟨oo, ho⟩ := st3.env.at y (hR y k)
            rw [g] at ho; cases ho
          · exact n3 y g y k rfl
  | exc z os =>
    rw [hφ] at h
    match os, h with
    | [], h => exact h.elim
    | _ :: _ :: _, h => exact h.elim
    | [o'], h =>
      intro cls dx P' H' C' x4 xr rc nd fr
      rw [pick0] at rc
      cases rc with
      | @cons _ _ C _ _ _ rc1 rc2 =>
        cases rc2
        rw [List.append_nil] at nd fr
        obtain ⟨A', af, pm⟩ := Foc.call (L := L) st x3 q w x4 rc1 nd fr
        exact hE _ _ _ (h cls dx P' H' A' af xr)
theorem PostX.call {G : Gd} {P H : Hp} {σ : Sl} {ρ : Env} {A : List Addr} {x : D} (st : StRel G P H σ ρ A) (h : ∀ cls dx P' H' A', After G P H σ A L P' H' σ ρ A' → XRel G P' cls dx x → W cls dx σ H') : PostX G P H W σ x := fun cls dx P' H' e r => h cls dx P' H' A (.pure st e) r
theorem c_meth (F : MthOk X.prog X.w X.K X.mg X.base c m k ps [0] φ) (hr : GRoom k X.A) (tk : Takes X W) (ho : PlOk X W o Pl) (ha : AOk X W (e :: es) Ss)
    (hst : starEach (e :: es) X.env = (false, eval e X.env) :: starEach es X.env := by rfl) (hpl : (backTo pos (starEach es X.env)).any (·.1) = false := by rfl)
    {pl : Sem Bool} (ht : eval (.Call (.Attribute o m apos) (e :: es) [] pos) X.env = (do
      let ov ← eval o X.env
      standAt apos.atName
      let (f, first) ← holding [ov] (getMethod ov m pl)
      callWith pos f first (backTo pos (starEach (e :: es) X.env)) (backToKw pos (keywordEach [] X.env))) := by rfl) :
    COk X W L (.Call (.Attribute o m apos) (e :: es) [] pos) (cMeth c m ps.length φ Pl Ss) := by
  obtain ⟨f, fd, Cc, F, hb, mgC, cl, hm⟩ := F.ex
  refine ⟨⟨fun pins s σ H Q I ⟨P, ρ, A, st, h⟩ => ?_⟩⟩
  have h1 : tPl (gd X) W Pl σ H fun x H1 => ∃ a dx fs, x = .ref a ∧ H1 a = some (.ins Cc dx fs) ∧ fs.lookup m = none ∧ tL (gd X) W Ss σ H1 fun vs H2 => spF (gd X) ps.length [0] φ (x :: vs) H2 Q fun cls d H' => W cls d σ H' := by
    refine ⟨P, ρ, A, st, ?_⟩
    unfold cMeth at h
    cases hso : Pl ρ with
    | bad => simp only [hso] at h
    | exc x => simp only [hso] at h; exact PostX.call st h
    | ok p =>
      simp only [hso] at h
      intro v P1 H1 e1 Fc
      cases hd : p.at_ with
      | obj ob c' ns ds =>
        cases ob with
        | false => simp only [hd] at h
        | true =>
          simp only [hd] at h
          by_cases hc : c' = c ∧ m ∉ ns
          · rw [if_pos hc] at h
            obtain ⟨rfl, hn⟩ := hc
            have Fc' := Fc
            obtain ⟨B, R, r, q, w⟩ := Fc
            rw [hd] at r
            obtain ⟨a, C', dx, vs, B0, rfl, mg, hH, hl, rl, sub⟩ := obj_of e1.und r
            have : C' = Cc := by
              have := mg.symm.trans mgC
              cases this; rfl
            subst this
            refine ⟨a, dx, _, rfl, hH, look_zip hn, P1, ρ, A, st.ext e1, ?_⟩
            cases hs : Ss ρ with
            | bad => simp only [hs] at h
            | exc x => simp only [hs] at h; exact PostX.ext (PostX.call st h) st.und e1
            | ok ds' =>
              simp only [hs] at h
              intro vs' P2 H2 B2 e2 r2 f2
              by_cases hnn : ds'.length + 1 = ps.length
              · rw [if_pos hnn] at h
                rw [← hd] at h
                exact spF_pl (L := L) (W := W) st e1 Fc' e2 r2 f2 hnn h fun _ _ _ z => z
              · rw [if_neg hnn] at h; exact h.elim
          · rw [if_neg hc] at h; exact h.elim
      | _ => simp only [hd] at h
  refine PySem.W.methodCall_KW (pl := pl) (thn (ho.pe.run pins s σ H _ I h1) fun u s1 ⟨x, H1, I1, rx, a, dx, fs, ex, ea, l, q⟩ => ?_) ht
  subst ex
  obtain rfl : u = Value.ref a := rx
  refine getmeth_ok I1 ea cl hm l ?_
  refine PySem.W.callWith_K (first := [.ref a]) (h₀ := X.base) I.ok.mod.kin hm.kp (thn (ha.pa.run pos pins s1 σ H1 _ I1 q) fun us s2 ⟨vs, H2, I2, r, q2⟩ => ⟨I2.kIn, ?_⟩) hst hpl
  exact run_fnG (us := .ref a :: us) (vs := .ref a :: vs) F hr hb tk I2 (.cons rfl r) q2
def sExprC (C : Env → CRes) : Env → SRes := fun ρ => match C ρ with
  | .ok _ ρ' => .nx ρ'
  | .exc x ρ' => .exc x ρ'
  | .bad => .bad
theorem s_exprC (he : COk X W L e C) (hs : swapsWith e none pos.line X.env = pure false := by rfl) : SOk X W L (.Expr e pos) (sExprC C) := ⟨PS.imp (ps_expr he.pe hs) fun D σ H ⟨P, ρ, A, st, h⟩ => ⟨P, ρ, A, st, by
  unfold sExprC at h
  cases hs : C ρ with
  | bad => simp only [hs] at h
  | exc x ρ' => simp only [hs] at h; exact fun cls dx P' H' A' a r => h cls dx σ P' H' A' a r
  | ok d ρ' => simp only [hs] at h; exact fun v P' H' A' B a r nd f => h σ P' H' A' a⟩⟩
end
end RL
namespace RL
open PySem PySem.Spec PyProof.Rows L2
section
variable {X : Cx} {W : WX} {L : List Nat} {e : Expr} {st : Stmt} {S : Env → Res D}
def sViewL (i : Nat) (S : Env → Res D) : Env → Res D := fun ρ => match ρ[i]? with
  | some (some d) => if ownOk d = true then (match S (ρ.set i (some d.frz)) with
    | .ok v => if noFrz v = true then .ok v else .bad
    | .exc x => .exc x
    | .bad => .bad) else .bad
  | _ => .bad
theorem StRel.viewK {G : Gd} {P H : Hp} {σ : Sl} {ρ : Env} {A : List Addr} {i : Nat} {d : D} (st : StRel G P H σ ρ A) (h : ρ[i]? = some (some d)) (ok : ownOk d = true) : ∃ B A', (∀ b ∈ B, P b = none) ∧ (∀ b ∈ B, Kind (H b)) ∧ StRel G (give P H B) H σ (ρ.set i (some d.frz)) A' := by
  have hi : i < ρ.length := (List.getElem?_eq_some_iff.mp h).1
  obtain ⟨B, C, p, q, hv⟩ := st.env.out hi
  rcases hv with ⟨d', v, h1, h2, r⟩ | ⟨h1, _⟩
  · rw [h] at h1
    cases h1
    have bA : ∀ b ∈ B, b ∈ A := fun b hb => p.symm.subset (List.mem_append_left _ hb)
    have cA : ∀ b ∈ C, b ∈ A := fun b hb => p.symm.subset (List.mem_append_right _ hb)
    have off : ∀ b ∈ B, P b = none := fun b hb => st.off b (bA b hb)
    have g := give_ext (A := B) st.und off
    obtain ⟨n1, n2, n3⟩ := List.nodup_append.mp (p.nodup_iff.mp st.nd)
    have rf : Rel G (give P H B) H v d.frz [] := r.frz g.same fun b hb => give_in hb
    have qc : EnvRel G (give P H B) H σ (ρ.set i none) C := q.mono g.same fun _ _ => rfl
    obtain ⟨A', p', q'⟩ := qc.put (i := i) rf (by simpa using hi) (by simp [hi])
    rw [List.set_set, EnvRel.set_same h2] at q'
    refine ⟨B, A', off, r.kind ok, ⟨g.und, q', p'.symm.nodup_iff.mp (by simpa using n2), fun b hb => ?_, st.mks.mono g.same⟩⟩
    have hb : b ∈ C := by simpa using p'.subset hb
    rw [give_out fun z => n3 b z b hb rfl]
    exact st.off b (cA b hb)
  · rw [h] at h1; cases h1
theorem e_viewL (i : Nat) (h : EOk X W e S) : EOk X W e (sViewL i S) := ⟨PE.imp h.pe fun σ H Q ⟨P, ρ, A, st, hq⟩ => by
  unfold sViewL at hq
  cases hi : ρ[i]? with
  | none => simp only [hi] at hq
  | some o =>
    cases o with
    | none => simp only [hi] at hq
    | some d =>
      simp only [hi] at hq
      by_cases ok : ownOk d = true
      · rw [if_pos ok] at hq
        obtain ⟨B, A', off, kd, st2⟩ := st.viewK hi ok
        refine ⟨_, _, A', st2, ?_⟩
        cases hs : S (ρ.set i (some d.frz)) with
        | bad => simp only [hs] at hq
        | exc x =>
          simp only [hs] at hq
          intro cls dx P' H' e3 xr
          obtain ⟨hP, e4⟩ := lend_ext st.und (Ext.refl st.und) off kd e3
          exact hq cls dx _ H' e4 (xr.less hP)
        | ok v0 =>
          simp only [hs] at hq
          by_cases hv : noFrz v0 = true
          · rw [if_pos hv] at hq
            intro v P' H' B' e3 r f
            obtain ⟨hP, e4⟩ := lend_ext st.und (Ext.refl st.und) off kd e3
            have nB : ∀ b ∈ B', b ∉ B := fun b hb hb2 => by
              have z := (f.2 b hb).1
              rcases kd b hb2 with ⟨xs, q⟩ | ⟨C, dx, fs, q⟩ <;> (rw [z] at q; cases q)
            exact hq v _ H' B' e4 (r.less hP hv) ⟨f.1, fun b hb => ⟨(f.2 b hb).1, by rw [less_out (nB b hb)]; exact (f.2 b hb).2⟩⟩
          · rw [if_neg hv] at hq; exact hq.elim
      · rw [if_neg ok] at hq; exact hq.elim⟩
theorem s_wallS : SOk X W L st (fun _ => SRes.bad) := ⟨⟨fun pins s D σ H I ⟨P, ρ, A, st, h⟩ => h.elim⟩⟩
end
end RL
namespace RL
open PySem PySem.Spec PyProof.Rows L2
section
variable {X : Cx} {W : WX} {pos : Pos} {L : List Nat} {Pl : Env → Res Plc}
def isDctO : D → Bool
  | .dct true _ _ => true
  | _ => false
def sDClr (Pl : Env → Res Plc) : Env → SRes := fun ρ => match Pl ρ with
  | .ok p => if isDctO p.at_ = true then .nx (p.set (.dct true [] [])) else .bad
  | .exc x => .exc x ρ
  | .bad => .bad
end
@[simp] theorem sDClr_ap {Pl : Env → Res Plc} {ρ : Env} : sDClr Pl ρ = (Pl ρ).stm ρ fun p => if isDctO p.at_ = true then .nx (p.set (.dct true [] [])) else .bad := by
  unfold sDClr Res.stm
  cases Pl ρ <;> rfl
end RL
namespace RL
open PySem PySem.Spec PyProof.Rows L2
section
variable {prog : Program} {w : World} {A : Around} {E : Value → Shared → Prop} {s : Shared}
end
section
variable {X : Cx} {W : WX} {e : Expr} {pos : Pos}
end
end RL
namespace RL
open PySem PySem.Spec PyProof.Rows L2
section
variable {X : Cx} {W : WX} {o e : Expr} {apos cpos : Pos} {So : Env → Res D} {Ss : Env → Res (List D)}
def sLm (f : D → D → Option D) (So : Env → Res D) (Ss : Env → Res (List D)) : Env → Res D := fun ρ => (So ρ).bind fun x => match x with
  | .lst ob ds => (Ss ρ).bind fun ys => match ys with
    | [y] => opt (f (.lst ob ds) y)
    | _ => .bad
  | _ => .bad
end
@[simp] theorem sLm_ap {f : D → D → Option D} {So : Env → Res D} {Ss : Env → Res (List D)} {ρ : Env} {ob : Bool} {ds : List D} {y : D} (h1 : So ρ = .ok (.lst ob ds)) (h2 : Ss ρ = .ok [y]) : sLm f So Ss ρ = opt (f (.lst ob ds) y) := by
  simp [sLm, h1, h2, Res.bind]
end RL
namespace RL
open PySem PySem.Spec PyProof.Rows L2
def dropKs (k : Key) (ks : List Key) : List Key := ks.filter fun g => decide (g ≠ k)
def dropVs {α : Type} (k : Key) : List Key → List α → List α
  | g :: ks, v :: vs => if g = k then dropVs k ks vs else v :: dropVs k ks vs
  | _, _ => []
section
variable {X : Cx} {W : WX} {pos : Pos} {L : List Nat} {Pl : Env → Res Plc} {Sk Sf : Env → Res D}
def popD (k : D) : D → Option D
  | .dct true ks ds => (keyOf k).map fun k => .dct true (dropKs k ks) (dropVs k ks ds)
  | _ => none
def sDPop (Pl : Env → Res Plc) (Sk Sf : Env → Res D) : Env → SRes := fun ρ => match Pl ρ with
  | .ok p => if isDctO p.at_ = true then (match Sk ρ with
    | .ok k => (match Sf ρ with
      | .ok _ => (match popD k p.at_ with
        | some d' => .nx (p.set d')
        | none => .bad)
      | .exc x => .exc x ρ
      | .bad => .bad)
    | .exc x => .exc x ρ
    | .bad => .bad) else .bad
  | .exc x => .exc x ρ
  | .bad => .bad
end
@[simp] theorem sDPop_ap {Pl : Env → Res Plc} {Sk Sf : Env → Res D} {ρ : Env} : sDPop Pl Sk Sf ρ = (Pl ρ).stm ρ fun p => if isDctO p.at_ = true then (Sk ρ).stm ρ fun k => (Sf ρ).stm ρ fun _ => match popD k p.at_ with
    | some d' => .nx (p.set d')
    | none => .bad else .bad := by
  unfold sDPop Res.stm
  cases Pl ρ <;> simp only
  split
  · cases Sk ρ <;> simp only
    cases Sf ρ <;> rfl
  · rfl
end RL
namespace RL
open PySem PySem.Spec PyProof.Rows L2
theorem Under.dk {P H : Hp} (u : Under P H) {a : Addr} {kvs : List (Key × V)} (h : P a = some (.dK kvs)) : Rd H a (.dK kvs) := by
  rcases u a _ h with h | ⟨o, k, e, h⟩ | ⟨q, ps, e, _⟩
  · exact .inl h
  · exact .inr ⟨o, h⟩
  · simp [mark] at e
section
variable {X : Cx} {k : Nat} {pins : List (Addr × Obj)} {σ : L2.St} {P H : Hp} {s : Shared}
end
section
variable {X : Cx} {W : WX} {L : List Nat} {rest : List Stmt} {S : Env → SRes}
end
end RL
namespace RL
open PySem PySem.Spec PyProof.Rows L2
section
variable {X : Cx}
end
end RL
namespace RL
open PySem PySem.Spec PyProof.Rows L2
section
variable {X : Cx} {W : WX} {pos : Pos} {L : List Nat} {S : Env → SRes}
end
end RL
namespace RL
open PySem PySem.Spec PyProof.Rows L2
section
variable {prog : Program} {w : World} {A : Around} {E : Value → Shared → Prop} {s : Shared}
end
end RL
namespace RL
open PySem PySem.Spec PyProof.Rows L2
section
variable {X : Cx} {W : WX} {e o : Expr} {pos apos : Pos} {f : Str} {cs : List Str} {L : List Nat}
def tGF (G : Gd) (L : List Nat) (cs : List Str) (f : Str) (Pl : Env → Res Plc) : TG := fun x σ H Q => ∃ P ρ A d, StRel G P H σ ρ A ∧ Rel G P H x d [] ∧ match Pl ρ with
  | .ok p => (match setF cs f d p.at_ with
    | some d' => ∀ σ' P' H' A', After G P H σ A L P' H' σ' (p.set d') A' → Q σ' H'
    | none => False)
  | _ => False
structure GFOk (X : Cx) (L : List Nat) (Pl : Env → Res Plc) (tg : Expr) (cs : List Str) (f : Str) : Prop where pg : PG X tg (tGF (gd X) L cs f Pl)
def tGFL (G : Gd) (L : List Nat) (Pl : Env → Res Plc) : List (List Str × Str) → TGs
  | [] => gNil
  | t :: ts => gCons (tGF G L t.1 t.2 Pl) (tGFL G L Pl ts)
structure GFsOk (X : Cx) (L : List Nat) (Pl : Env → Res Plc) (tgs : List Expr) (ts : List (List Str × Str)) : Prop where pgs : PGs X tgs (tGFL (gd X) L Pl ts)
end
end RL
namespace RL
open PySem PySem.Spec PyProof.Rows L2
def keyS (e : Int × Value) : Str := match e.2 with | .str x _ => x | _ => Str.empty
def GoodS (P : Program) (w : World) (e : Int × Value) : Prop := ∃ x tk, e.2 = Value.str x tk ∧ e.1 = (strKind P w).hash x
def SetS (P : Program) (w : World) (hh : Heap) (a : Addr) (S : Str → Bool) (n : Nat) : Prop :=
  ∃ o es ep t, hh.get? a = some o ∧ o.ExactSet ∧ o.data = .set es ep t ∧ (∀ e ∈ es.toList, GoodS P w e) ∧ (es.toList.map keyS).Nodup ∧ (∀ x, S x = true ↔ x ∈ es.toList.map keyS) ∧
    es.size < scanBound ∧ t.fits es.size = true ∧ es.size = n ∧ Ris t.place.toList ∧ (w.params.followText "set-order" = true ∨ t.led = true)
section
variable {P : Program} {w : World} {A : Around} {E : Value → Shared → Prop} {s : Shared} {a : Addr} {S : Str → Bool} {n : Nat}
theorem SetS.at {h h' : Heap} (R : SetS P w h a S n) (k : ∀ o, h.get? a = some o → h'.get? a = some o) : SetS P w h' a S n := by
  obtain ⟨o, es, ep, t, ho, r⟩ := R
  exact ⟨o, es, ep, t, k o ho, r⟩
theorem SetS.congr {h : Heap} {S' : Str → Bool} (R : SetS P w h a S n) (e : ∀ k, S' k = S k) : SetS P w h a S' n := by
  have : S' = S := funext e
  rw [this]; exact R
end
section
variable {X : Cx} {W : WX} {a : Expr} {S : Env → Res D} {p p2 q pos : Pos}
end
end RL
namespace PySem.SeqAt
open PySem PySem.Spec PyProof.Rows
section
variable {A : Around} {s : Shared}
end
end PySem.SeqAt
namespace RL
open PySem PySem.Spec PyProof.Rows L2
section
variable {X : Cx} {k : Nat}
end
end RL
namespace RL
open PySem PySem.Spec PyProof.Rows L2
structure GTup (K : PySem.W.Frag) (mg : Str → Option Value) (x : Str) (ds : List D) : Prop where
  ex : ∃ a vs, mg x = some (.ref a) ∧ (∀ H : Hp, SqT K H a vs) ∧ ds.mapM D.flat? = some vs
theorem flat_back {G : Gd} {P H : Hp} {d : D} {v : V} (h : d.flat? = some v) : Rel G P H v d [] := by
  cases d <;> simp only [D.flat?, Option.some.injEq, reduceCtorEq] at h <;> subst h
  · exact .non
  · exact .bl _
  · exact .int _
  · exact .str _
theorem flats_back {G : Gd} {P H : Hp} : ∀ {ds : List D} {vs : List V}, ds.mapM D.flat? = some vs → RelL G P H vs ds []
  | [], vs, h => by
    have h' : vs = [] := by simpa using h.symm
    subst h'
    exact .nil
  | d :: ds, vs, h => by
    rw [List.mapM_cons] at h
    cases hd : d.flat? with
    | none => rw [hd] at h; cases h
    | some u =>
      rw [hd] at h
      cases ht : ds.mapM D.flat? with
      | none => rw [ht] at h; cases h
      | some us =>
        rw [ht] at h
        obtain rfl : u :: us = vs := Option.some.inj h
        exact .cons (A := []) (B := []) (flat_back hd) (flats_back ht)
structure GDct (K : PySem.W.Frag) (w : World) (mg : Str → Option Value) (x : Str) (tab : List (Str × D)) : Prop where
  ex : ∃ a es n, mg x = some (.ref a) ∧ KDict K w a es n ∧ (∀ z d, tab.lookup z = some d → ∃ u v, PySem.W.nsIn K a z = some (some u) ∧ RelV v u ∧ ∀ (G : Gd) (P H : Hp), G.K = K → Rel G P H v d []) ∧ ∀ z, tab.lookup z = none → PySem.W.nsIn K a z = some none
section
variable {X : Cx} {W : WX} {x : Str} {p pos apos cpos : Pos} {ds : List D} {tab : List (Str × D)} {b e f : Expr} {Sb Sf : Env → Res D}
theorem e_globT (h : GTup X.K X.mg x ds) (hg : Gl X x := by rfl) (hd : (x == ("__debug__" : Str)) = false := by decide) : EOk X W (.Name x p) (sC (.tup ds)) := by
  obtain ⟨a, vs, h1, h2, h3⟩ := h.ex
  exact e_val (pe_glob (v := .ref a) hg h1 rfl hd) fun P H => .tup (h2 P) (flats_back h3)
def fKd (tab : List (Str × D)) : D → Option D
  | .str z => tab.lookup z
  | _ => none
def fKdIn (tab : List (Str × D)) : D → Option D
  | .str z => some (.bl (tab.lookup z).isSome)
  | _ => none
theorem e_kdIx (h : GDct X.K X.w X.mg x tab) (hb : BOk X W b Sb) (hs : NoSl b := by exact fun _ _ => rfl) (hg : Gl X x := by rfl) (hd : (x == ("__debug__" : Str)) = false := by decide) : EOk X W (.Subscript (.Name x p) b pos) (s1 (fKd tab) Sb) := by
  obtain ⟨a, es, n, h1, h2, h3, h4⟩ := h.ex
  refine ⟨⟨fun pins s σ H Q I ⟨P, ρ, A, st, q⟩ => ?_⟩⟩
  refine subD_of PySem.F.slot_dict_getitem.lookup hs (thn ((pe_glob (v := .ref a) hg h1 rfl hd).run pins s σ H (fun x H1 => x = .ref a ∧ H1 = H) I ⟨rfl, rfl⟩) ?_)
  rintro u s1' ⟨x1, H1, I1, rx, rfl, rfl⟩
  obtain rfl : u = Value.ref a := rx
  refine thn (hb.pe.run pins s1' σ _ (fun y H2 => ∃ z, y = .str z ∧ ∃ d, tab.lookup z = some d ∧ ∀ v, (∀ (G : Gd) (P H : Hp), G.K = X.K → Rel G P H v d []) → Q v H2) I1 ⟨P, ρ, A, st, ?_⟩) ?_
  · unfold s1 at q
    cases hS : Sb ρ with
    | bad => rw [hS] at q; exact q.elim
    | exc x => rw [hS] at q; exact q
    | ok d =>
      rw [hS] at q
      intro v P1 H1 B1 e1 r1 o1
      cases d with
      | str z =>
        cases r1
        simp only [Res.bind, fKd] at q
        cases hl : tab.lookup z with
        | none => rw [hl] at q; exact q.elim
        | some d' =>
          rw [hl] at q
          exact ⟨z, rfl, d', hl, fun v hv => q v P1 H1 [] e1 (hv (gd X) P1 H1 rfl) Fresh.nil⟩
      | _ => exact q.elim
  · rintro u2 s2 ⟨y, H2, I2, ry, z, rfl, d, hl, hq⟩
    obtain ⟨u0, v0, g1, g2, g3⟩ := h3 z d hl
    exact ⟨kd_type h2 I2, op_item_kd h2 pins s2 σ H2 (.ref a) (.str z) _ _ Q I2 rfl ry ⟨z, u0, v0, rfl, rfl, g1, g2, hq v0 g3⟩⟩
theorem e_kdIn (h : GDct X.K X.w X.mg x tab) (hb : BOk X W b Sb) (hg : Gl X x := by rfl) (hd : (x == ("__debug__" : Str)) = false := by decide) (hm : behindInMarks .In (.Name x p) = false := by rfl) : EOk X W (.Compare b [.In] [.Name x p] pos) (s1 (fKdIn tab) Sb) := by
  obtain ⟨a, es, n, h1, h2, h3, h4⟩ := h.ex
  refine ⟨pe_cmp ⟨fun pins s σ H Q I ⟨P, ρ, A, st, q⟩ => ?_⟩ hm⟩
  refine thn (hb.pe.run pins s σ H (fun y H2 => ∃ z, y = .str z ∧ Q (.bl (tab.lookup z).isSome) H2) I ⟨P, ρ, A, st, ?_⟩) ?_
  · unfold s1 at q
    cases hS : Sb ρ with
    | bad => rw [hS] at q; exact q.elim
    | exc x => rw [hS] at q; exact q
    | ok d =>
      rw [hS] at q
      intro v P1 H1 B1 e1 r1 o1
      cases d with
      | str z =>
        cases r1
        simp only [Res.bind, fKdIn] at q
        exact ⟨z, rfl, q _ P1 H1 [] e1 (.bl _) Fresh.nil⟩
      | _ => exact q.elim
  · rintro u2 s2 ⟨y, H2, I2, ry, z, rfl, hq⟩
    refine thn ((pe_glob (v := .ref a) hg h1 rfl hd).run pins s2 σ H2 (fun x H1 => x = .ref a ∧ H1 = H2) I2 ⟨rfl, rfl⟩) ?_
    rintro u s1' ⟨x1, H1, I1, rx, rfl, rfl⟩
    obtain rfl : u = Value.ref a := rx
    refine op_in_kd h2 pins s1' σ _ (.str z) (.ref a) _ _ Q I1 ry rfl ?_
    cases hl : tab.lookup z with
    | none =>
      rw [hl] at hq
      exact ⟨z, none, rfl, rfl, h4 z hl, hq⟩
    | some d =>
      obtain ⟨u0, v0, g1, g2, g3⟩ := h3 z d hl
      rw [hl] at hq
      exact ⟨z, some u0, rfl, rfl, g1, hq⟩
end
def dvD : He.Dv → D
  | .non => .non
  | .bl b => .bl b
  | .int i => .int i
  | .str x => .str x
  | _ => .scr []
def dvFlat : He.Dv → Bool
  | .non => true
  | .bl _ => true
  | .int _ => true
  | .str _ => true
  | _ => false
theorem dv_flat {K : PySem.W.Frag} : ∀ {ds : List He.Dv}, ds.all dvFlat = true → (ds.map dvD).mapM D.flat? = some (ds.map (He.Dv.v K))
  | [], _ => rfl
  | d :: ds, h => by
    rw [List.all_cons, Bool.and_eq_true] at h
    rw [List.map_cons, List.mapM_cons, dv_flat h.2]
    cases d <;> first | rfl | cases h.1
def fTupC (x : Str) (ds : List He.Dv) : FaB := fun K => (He.Fa.glo x).ok K && He.tupB K x ds
theorem gtup_ok {K : PySem.W.Frag} {h : Heap} {mg : Str → Option Value} (X : K.In h) (G : h.Ns mainGlobals mg) {x : Str} {ds : List He.Dv} (c : fTupC x ds K = true) (f : ds.all dvFlat = true := by rfl) : GTup K mg x (ds.map dvD) := by
  obtain ⟨c1, c2⟩ := He.ba c
  exact ⟨_, _, He.glo_ok X G c1, fun H => He.tupB_ok c2 H, dv_flat f⟩
inductive Kv where
  | one (d : He.Dv)
  | tup (ds : List He.Dv)
def Kv.d : Kv → D
  | .one d => dvD d
  | .tup ds => .tup (ds.map dvD)
def Kv.flat : Kv → Bool
  | .one d => dvFlat d
  | .tup ds => ds.all dvFlat
def kvB (K : PySem.W.Frag) (u : Value) : Kv → Bool
  | .one d => He.relB (d.v K) u
  | .tup ds => match u with
    | .ref t => (match K.lookup t with
      | some ⟨.type c, _, .seq its _, _⟩ => decide (c = "tuple") && (decide (its.size ≤ sizeLine) && He.relAll (ds.map (He.Dv.v K)) its.toList)
      | _ => false)
    | _ => false
theorem kvB_ok {K : PySem.W.Frag} {u : Value} {k : Kv} (f : k.flat = true) (h : kvB K u k = true) : ∃ v, RelV v u ∧ ∀ (G : Gd) (P H : Hp), G.K = K → Rel G P H v k.d [] := by
  cases k with
  | one d =>
    refine ⟨d.v K, He.relB_ok h, fun G P H e => flat_back ?_⟩
    cases d <;> first | rfl | cases f
  | tup ds =>
    unfold kvB at h
    simp only at h
    cases u with
    | ref t =>
      simp only at h
      cases q : K.lookup t with
      | none => rw [q] at h; cases h
      | some o =>
        obtain ⟨oc, od, dt, osl⟩ := o
        rw [q] at h
        cases oc with
        | type c =>
          cases dt with
          | seq its n =>
            obtain ⟨h1, h2⟩ := He.ba (show (decide (c = "tuple") && (decide (its.size ≤ sizeLine) && He.relAll (ds.map (He.Dv.v K)) its.toList)) = true from h)
            obtain ⟨h3, h4⟩ := He.ba h2
            refine ⟨.ref t, rfl, fun G P H e => ?_⟩
            subst e
            exact .tup (.inr ⟨_, its, n, q, congrArg Value.type (of_decide_eq_true h1), rfl, of_decide_eq_true h3, He.relAll_ok h4⟩) (flats_back (dv_flat f))
          | _ => cases h
        | _ => cases dt <;> cases h
    | _ => cases h
def fDctC (x : Str) (kvs : List (Str × Kv)) : FaB := fun K => (He.Fa.glo x).ok K && kvs.all fun p => match PySem.W.nsIn K (He.ga K x) p.1 with
  | some (some u) => kvB K u p.2
  | _ => false
abbrev tabOfK (kvs : List (Str × Kv)) : List (Str × D) := kvs.map fun p => (p.1, p.2.d)
theorem lookup_mem {kvs : List (Str × Kv)} {z : Str} {d : D} (h : (tabOfK kvs).lookup z = some d) : ∃ k, (z, k) ∈ kvs ∧ k.d = d := by
  induction kvs with
  | nil => cases h
  | cons p kvs ih =>
    simp only [tabOfK, List.map_cons, List.lookup_cons] at h
    split at h
    · rename_i e
      refine ⟨p.2, ?_, by simpa using h⟩
      have : z = p.1 := eq_of_beq e
      rw [this]
      exact List.mem_cons_self
    · obtain ⟨k, h1, h2⟩ := ih h
      exact ⟨k, List.mem_cons_of_mem _ h1, h2⟩
theorem lookup_out {kvs : List (Str × Kv)} {z : Str} (h : (tabOfK kvs).lookup z = none) : z ∉ kvs.map (·.1) := by
  induction kvs with
  | nil => simp
  | cons p kvs ih =>
    simp only [tabOfK, List.map_cons, List.lookup_cons] at h
    split at h
    · cases h
    · rename_i e
      simp only [List.map_cons, List.mem_cons, not_or]
      exact ⟨fun q => by rw [q] at e; simp at e, ih h⟩
theorem ns_out {K : PySem.W.Frag} {P : Params} {a : Addr} {ks : List Str} {z : Str} (h : He.dicW K a = some (He.keysIn P ks)) (hz : z ∉ ks) : PySem.W.nsIn K a z = some none := by
  unfold He.dicW at h
  unfold PySem.W.nsIn
  cases q : K.lookup a with
  | none => rw [q] at h; cases h
  | some o =>
    obtain ⟨oc, od, dt, osl⟩ := o
    rw [q] at h
    cases dt with
    | dict es n =>
      simp only
      have he : es.toList.map He.keyOf = He.keysIn P ks := by
        cases oc <;> try (cases h)
        cases od <;> try (cases h)
        simp only at h
        split at h
        · exact Option.some.inj h
        · cases h
      clear h q
      have main : ∀ (l : List DictEntry) (ks : List Str), l.map He.keyOf = He.keysIn P ks → z ∉ ks → l.find? (·.key.isStr z) = none ∧ l.any (·.refKey) = false := by
        intro l
        induction l with
        | nil => intro ks _ _; exact ⟨rfl, rfl⟩
        | cons e l ih =>
          intro ks h hz
          cases ks with
          | nil => cases h
          | cons k ks =>
            have h1 : He.keyOf e :: l.map He.keyOf = some (k, PyData.keyHash P k) :: He.keysIn P ks := h
            injection h1 with h2 h3
            simp only [List.mem_cons, not_or] at hz
            obtain ⟨i1, i2⟩ := ih ks h3 hz.2
            unfold He.keyOf at h2
            split at h2
            · rename_i x t qk
              have h5 := (Prod.mk.inj (Option.some.inj h2)).1
              subst h5
              have ne : e.key.isStr z = false := by
                rw [qk]
                show decide (x = z) = false
                exact decide_eq_false fun h => hz.1 h.symm
              refine ⟨by rw [List.find?_cons, ne]; exact i1, ?_⟩
              rw [List.any_cons, i2, Bool.or_false]
              unfold DictEntry.refKey
              rw [qk]
            · cases h2
      obtain ⟨m1, m2⟩ := main es.toList ks he hz
      rw [m1]
      simp only [m2]
      rfl
    | _ => cases oc <;> cases od <;> cases h
theorem gdct_ok {K : PySem.W.Frag} {h : Heap} {w : World} {mg : Str → Option Value} (X : K.In h) (G : h.Ns mainGlobals mg) {x : Str} {kvs : List (Str × Kv)} (c : fDctC x kvs K = true) (t : He.dicW K (He.ga K x) = some (He.keysIn w.params (kvs.map (·.1)))) (f : kvs.all (fun p => p.2.flat) = true := by rfl) : GDct K w mg x (tabOfK kvs) := by
  obtain ⟨c1, c2⟩ := He.ba c
  obtain ⟨es, n, kd⟩ := He.dicW_ok t
  refine ⟨_, es, n, He.glo_ok X G c1, kd, fun z d hz => ?_, fun z hz => ns_out t (lookup_out hz)⟩
  obtain ⟨k, hk, rfl⟩ := lookup_mem hz
  have c3 := List.all_eq_true.mp c2 _ hk
  have f3 := List.all_eq_true.mp f _ hk
  simp only at c3 f3
  cases e : PySem.W.nsIn K (He.ga K x) z with
  | none => rw [e] at c3; cases c3
  | some r =>
    rw [e] at c3
    cases r with
    | none => cases c3
    | some u =>
      obtain ⟨v, v1, v2⟩ := kvB_ok f3 c3
      exact ⟨u, v, rfl, v1, v2⟩
end RL
namespace RL
open PySem PySem.Spec PyProof.Rows L2
abbrev AlLT : Type := He.AlD × List (Option (List (Option (Str × Int))))
def obsLT (as : List Addr) (fa : List FaB) (fn : List He.DefD) (ts : List (Str × List Str)) (g : Addr → Option Obj) : AlLT := (obsL as fa fn g, ts.map fun t => He.dicW (He.frG g as) (He.ga (He.frG g as) t.1))
def valLT (fn : List He.DefD) (ts : List (Str × List Str)) (w : World) : AlLT := (He.valD fn, ts.map fun t => some (He.keysIn w.params t.2))
def SaysLT (fa : List FaB) (fn : List He.DefD) (ts : List (Str × List Str)) (w : World) (K : PySem.W.Frag) : Prop := SaysR fa fn K ∧ (ts.map fun t => He.dicW K (He.ga K t.1)) = ts.map fun t => some (He.keysIn w.params t.2)
def hookLT (as : (Addr → Option Obj) → List Addr) (fa : List FaB) (fn : List He.DefD) (ts : List (Str × List Str)) : PySem.W.Hook where
  α := AlLT
  obs := fun s => obsLT (as s.heap.get?) fa fn ts s.heap.get?
  val := fun w => valLT fn ts w
  says := fun w h => ∃ K : PySem.W.Frag, K.In h ∧ SaysLT fa fn ts w K ∧ CtabOk K h
  of := fun w s e => by
    have e0 : obsL (as s.heap.get?) fa fn s.heap.get? = He.valD fn := congrArg (fun z : AlLT => z.1) e
    have et : (ts.map fun t => He.dicW (He.frG s.heap.get? (as s.heap.get?)) (He.ga (He.frG s.heap.get? (as s.heap.get?)) t.1)) = ts.map fun t => some (He.keysIn w.params t.2) := congrArg (fun z : AlLT => z.2) e
    have e1 : (tabL (as s.heap.get?) s.heap.get? && (obsR fa fn (He.frG s.heap.get? (as s.heap.get?))).1) = true := congrArg (fun z : He.AlD => z.1) e0
    have e2 : (obsR fa fn (He.frG s.heap.get? (as s.heap.get?))).2 = fn.map He.DefD.val := congrArg (fun z : He.AlD => z.2) e0
    obtain ⟨b1, b2⟩ := Bool.and_eq_true_iff.mp e1
    exact ⟨_, He.frG_in, ⟨Prod.ext b2 e2, et⟩, ctab_L (fun _ => rfl) b1⟩
  keeps := fun _ _ _ ⟨K, hK, c, t⟩ k => ⟨K, PySem.W.Frag.In.keeps hK k, c, t.keeps k⟩
theorem obsLT_eq {as : (Addr → Option Obj) → List Addr} {fa : List FaB} {fn : List He.DefD} {ts : List (Str × List Str)} {g : Addr → Option Obj} {s : Shared} (h : ∀ a, g a = s.heap.get? a) : obsLT (as g) fa fn ts g = (hookLT as fa fn ts).obs s := by
  have e : g = s.heap.get? := funext h
  rw [e] <;> rfl
theorem SaysLT.tab {fa : List FaB} {fn : List He.DefD} {ts : List (Str × List Str)} {w : World} {K : PySem.W.Frag} (c : SaysLT fa fn ts w K) (i : Nat) {t : Str × List Str} (h : ts[i]? = some t := by rfl) : He.dicW K (He.ga K t.1) = some (He.keysIn w.params t.2) := by
  have e2 : (ts.map fun t => He.dicW K (He.ga K t.1))[i]? = (ts.map fun t => some (He.keysIn w.params t.2))[i]? := by rw [c.2]
  rw [List.getElem?_map, List.getElem?_map, h] at e2
  exact Option.some.inj e2
end RL
namespace Lk11
open PySem PySem.Spec PyProof.Rows L2 RL
def topS (i : Nat) : Stmt := PySem.Challenge.pw_regattaroll_k11_texts_shown_and_read.main.body.getD i (.Pass ⟨0, 0, 0, 0⟩)
abbrev cs_bearing : List Str := ["LevelHandicap", "FactorHandicap", "YardHandicap", "MileHandicap"]
abbrev cs_classes_R : List Str := ["Reader"]
abbrev cs_crews : List Str := ["Meeting"]
abbrev cs_crews_R : List Str := ["Reader"]
abbrev cs_kinds : List Str := ["Meeting"]
abbrev cs_last_R : List Str := ["Reader"]
abbrev cs_limits : List Str := ["Meeting"]
abbrev cs_limits_R : List Str := ["Reader"]
abbrev cs_row_R : List Str := ["Reader"]
abbrev cs_runs : List Str := ["Meeting"]
abbrev cs_runs_R : List Str := ["Reader"]
abbrev iso_Meeting : List (Str × Bool) := [("LevelHandicap", false), ("FactorHandicap", false), ("YardHandicap", false), ("MileHandicap", false), ("Meeting", true), ("Reader", false)]
abbrev kd_ORDER : List (Str × D) := [("class", .int 0), ("boat", .int 1), ("drops", .int 2), ("race", .int 3)]
abbrev sub_BadTime : List (Str × Bool) := [("BadText", false), ("BadTime", true), ("NoName", false)]
abbrev s_is_whole : Stmt := topS 11
abbrev s_are_figures : Stmt := topS 15
abbrev s_Handicap___init__ : Stmt := (clsB (topS 18)).getD 0 (.Pass ⟨0, 0, 0, 0⟩)
abbrev s_Handicap_word : Stmt := (clsB (topS 18)).getD 1 (.Pass ⟨0, 0, 0, 0⟩)
abbrev s_FactorHandicap_word : Stmt := (clsB (topS 20)).getD 0 (.Pass ⟨0, 0, 0, 0⟩)
abbrev s_YardHandicap_word : Stmt := (clsB (topS 21)).getD 0 (.Pass ⟨0, 0, 0, 0⟩)
abbrev s_MileHandicap_word : Stmt := (clsB (topS 22)).getD 0 (.Pass ⟨0, 0, 0, 0⟩)
abbrev s_is_name : Stmt := topS 42
abbrev s_Reader___init__ : Stmt := (clsB (topS 46)).getD 0 (.Pass ⟨0, 0, 0, 0⟩)
abbrev s_Reader_need : Stmt := (clsB (topS 46)).getD 1 (.Pass ⟨0, 0, 0, 0⟩)
abbrev s_Reader_fleets : Stmt := (clsB (topS 46)).getD 3 (.Pass ⟨0, 0, 0, 0⟩)
abbrev s__law_cell_at : Stmt := topS 51
abbrev s__law_mixed : Stmt := topS 52
abbrev s__law_time_text : Stmt := topS 56
abbrev s_is_time : Stmt := topS 12
abbrev s_time_read : Stmt := topS 16
abbrev s_Handicap_plain : Stmt := (clsB (topS 18)).getD 2 (.Pass ⟨0, 0, 0, 0⟩)
abbrev s_Handicap_text : Stmt := (clsB (topS 18)).getD 3 (.Pass ⟨0, 0, 0, 0⟩)
abbrev s_LevelHandicap_plain : Stmt := (clsB (topS 19)).getD 0 (.Pass ⟨0, 0, 0, 0⟩)
abbrev s_LevelHandicap_text : Stmt := (clsB (topS 19)).getD 1 (.Pass ⟨0, 0, 0, 0⟩)
abbrev s_number_in : Stmt := topS 43
abbrev s_Reader_need_name : Stmt := (clsB (topS 46)).getD 2 (.Pass ⟨0, 0, 0, 0⟩)
abbrev s__law_names : Stmt := topS 53
abbrev s__law_handicap : Stmt := topS 54
abbrev s__law_lines : Stmt := topS 57
abbrev s__law_strewn : Stmt := topS 58
abbrev s_need_time : Stmt := topS 13
abbrev s_handicap_of : Stmt := topS 23
abbrev s_Meeting_plain : Stmt := (clsB (topS 27)).getD 1 (.Pass ⟨0, 0, 0, 0⟩)
abbrev s_time_in : Stmt := topS 44
abbrev s_handicap_in : Stmt := topS 45
abbrev s_Reader_boat_line : Stmt := (clsB (topS 46)).getD 5 (.Pass ⟨0, 0, 0, 0⟩)
abbrev s_Reader_drops_line : Stmt := (clsB (topS 46)).getD 6 (.Pass ⟨0, 0, 0, 0⟩)
abbrev s__law_meeting : Stmt := topS 55
abbrev s_time_text : Stmt := topS 14
abbrev s_Meeting___init__ : Stmt := (clsB (topS 27)).getD 0 (.Pass ⟨0, 0, 0, 0⟩)
abbrev s_Reader_class_line : Stmt := (clsB (topS 46)).getD 4 (.Pass ⟨0, 0, 0, 0⟩)
abbrev s_Reader_race_line : Stmt := (clsB (topS 46)).getD 7 (.Pass ⟨0, 0, 0, 0⟩)
abbrev s_Reader_went : Stmt := (clsB (topS 46)).getD 8 (.Pass ⟨0, 0, 0, 0⟩)
abbrev s_shown : Stmt := topS 49
abbrev s_meeting_of : Stmt := topS 28
abbrev s_Reader_went_through : Stmt := (clsB (topS 46)).getD 9 (.Pass ⟨0, 0, 0, 0⟩)
abbrev s_read : Stmt := topS 47
abbrev s__law_is_read : Stmt := topS 59
abbrev s_law : Stmt := topS 60
def h_law : He.DefD := ⟨("law", none), "law", "law", defArgs s_law, defBody s_law, defScope s_law, [], []⟩
def h_FactorHandicap___init___ : He.DefD := ⟨("FactorHandicap", some "__init__"), "__init__", "Handicap.__init__", defArgs s_Handicap___init__, defBody s_Handicap___init__, defScope s_Handicap___init__, [], []⟩
def h_YardHandicap___init___ : He.DefD := ⟨("YardHandicap", some "__init__"), "__init__", "Handicap.__init__", defArgs s_Handicap___init__, defBody s_Handicap___init__, defScope s_Handicap___init__, [], []⟩
def h_MileHandicap___init___ : He.DefD := ⟨("MileHandicap", some "__init__"), "__init__", "Handicap.__init__", defArgs s_Handicap___init__, defBody s_Handicap___init__, defScope s_Handicap___init__, [], []⟩
def h_LevelHandicap___init___ : He.DefD := ⟨("LevelHandicap", some "__init__"), "__init__", "Handicap.__init__", defArgs s_Handicap___init__, defBody s_Handicap___init__, defScope s_Handicap___init__, [], []⟩
def h_handicap_of : He.DefD := ⟨("handicap_of", none), "handicap_of", "handicap_of", defArgs s_handicap_of, defBody s_handicap_of, defScope s_handicap_of, [], []⟩
def h_Meeting___init___ : He.DefD := ⟨("Meeting", some "__init__"), "__init__", "Meeting.__init__", defArgs s_Meeting___init__, defBody s_Meeting___init__, defScope s_Meeting___init__, [], []⟩
def h_meeting_of : He.DefD := ⟨("meeting_of", none), "meeting_of", "meeting_of", defArgs s_meeting_of, defBody s_meeting_of, defScope s_meeting_of, [], []⟩
def h_is_whole : He.DefD := ⟨("is_whole", none), "is_whole", "is_whole", defArgs s_is_whole, defBody s_is_whole, defScope s_is_whole, [], []⟩
def h_is_time : He.DefD := ⟨("is_time", none), "is_time", "is_time", defArgs s_is_time, defBody s_is_time, defScope s_is_time, [], []⟩
def h_need_time : He.DefD := ⟨("need_time", none), "need_time", "need_time", defArgs s_need_time, defBody s_need_time, defScope s_need_time, [], []⟩
def h_time_text : He.DefD := ⟨("time_text", none), "time_text", "time_text", defArgs s_time_text, defBody s_time_text, defScope s_time_text, [], []⟩
def h_MileHandicap_word_ : He.DefD := ⟨("MileHandicap", some "word"), "word", "MileHandicap.word", defArgs s_MileHandicap_word, defBody s_MileHandicap_word, defScope s_MileHandicap_word, [], []⟩
def h_YardHandicap_word_ : He.DefD := ⟨("YardHandicap", some "word"), "word", "YardHandicap.word", defArgs s_YardHandicap_word, defBody s_YardHandicap_word, defScope s_YardHandicap_word, [], []⟩
def h_FactorHandicap_word_ : He.DefD := ⟨("FactorHandicap", some "word"), "word", "FactorHandicap.word", defArgs s_FactorHandicap_word, defBody s_FactorHandicap_word, defScope s_FactorHandicap_word, [], []⟩
def h_LevelHandicap_word_ : He.DefD := ⟨("LevelHandicap", some "word"), "word", "Handicap.word", defArgs s_Handicap_word, defBody s_Handicap_word, defScope s_Handicap_word, [], []⟩
def h_MileHandicap_plain_ : He.DefD := ⟨("MileHandicap", some "plain"), "plain", "Handicap.plain", defArgs s_Handicap_plain, defBody s_Handicap_plain, defScope s_Handicap_plain, [], []⟩
def h_YardHandicap_plain_ : He.DefD := ⟨("YardHandicap", some "plain"), "plain", "Handicap.plain", defArgs s_Handicap_plain, defBody s_Handicap_plain, defScope s_Handicap_plain, [], []⟩
def h_FactorHandicap_plain_ : He.DefD := ⟨("FactorHandicap", some "plain"), "plain", "Handicap.plain", defArgs s_Handicap_plain, defBody s_Handicap_plain, defScope s_Handicap_plain, [], []⟩
def h_LevelHandicap_plain_ : He.DefD := ⟨("LevelHandicap", some "plain"), "plain", "LevelHandicap.plain", defArgs s_LevelHandicap_plain, defBody s_LevelHandicap_plain, defScope s_LevelHandicap_plain, [], []⟩
def h_Meeting_plain_ : He.DefD := ⟨("Meeting", some "plain"), "plain", "Meeting.plain", defArgs s_Meeting_plain, defBody s_Meeting_plain, defScope s_Meeting_plain, [], []⟩
def h_MileHandicap_text_ : He.DefD := ⟨("MileHandicap", some "text"), "text", "Handicap.text", defArgs s_Handicap_text, defBody s_Handicap_text, defScope s_Handicap_text, [], []⟩
def h_YardHandicap_text_ : He.DefD := ⟨("YardHandicap", some "text"), "text", "Handicap.text", defArgs s_Handicap_text, defBody s_Handicap_text, defScope s_Handicap_text, [], []⟩
def h_FactorHandicap_text_ : He.DefD := ⟨("FactorHandicap", some "text"), "text", "Handicap.text", defArgs s_Handicap_text, defBody s_Handicap_text, defScope s_Handicap_text, [], []⟩
def h_LevelHandicap_text_ : He.DefD := ⟨("LevelHandicap", some "text"), "text", "LevelHandicap.text", defArgs s_LevelHandicap_text, defBody s_LevelHandicap_text, defScope s_LevelHandicap_text, [], []⟩
def h_shown : He.DefD := ⟨("shown", none), "shown", "shown", defArgs s_shown, defBody s_shown, defScope s_shown, [], []⟩
def h__law_mixed : He.DefD := ⟨("_law_mixed", none), "_law_mixed", "_law_mixed", defArgs s__law_mixed, defBody s__law_mixed, defScope s__law_mixed, [], []⟩
def h__law_cell_at : He.DefD := ⟨("_law_cell_at", none), "_law_cell_at", "_law_cell_at", defArgs s__law_cell_at, defBody s__law_cell_at, defScope s__law_cell_at, [], []⟩
def h__law_names : He.DefD := ⟨("_law_names", none), "_law_names", "_law_names", defArgs s__law_names, defBody s__law_names, defScope s__law_names, [], []⟩
def h__law_handicap : He.DefD := ⟨("_law_handicap", none), "_law_handicap", "_law_handicap", defArgs s__law_handicap, defBody s__law_handicap, defScope s__law_handicap, [], []⟩
def h__law_meeting : He.DefD := ⟨("_law_meeting", none), "_law_meeting", "_law_meeting", defArgs s__law_meeting, defBody s__law_meeting, defScope s__law_meeting, [], []⟩
def h__law_time_text : He.DefD := ⟨("_law_time_text", none), "_law_time_text", "_law_time_text", defArgs s__law_time_text, defBody s__law_time_text, defScope s__law_time_text, [], []⟩
def h__law_lines : He.DefD := ⟨("_law_lines", none), "_law_lines", "_law_lines", defArgs s__law_lines, defBody s__law_lines, defScope s__law_lines, [], []⟩
def h__law_strewn : He.DefD := ⟨("_law_strewn", none), "_law_strewn", "_law_strewn", defArgs s__law_strewn, defBody s__law_strewn, defScope s__law_strewn, [], []⟩
def h_Reader___init___ : He.DefD := ⟨("Reader", some "__init__"), "__init__", "Reader.__init__", defArgs s_Reader___init__, defBody s_Reader___init__, defScope s_Reader___init__, [], []⟩
def h_Reader_need_ : He.DefD := ⟨("Reader", some "need"), "need", "Reader.need", defArgs s_Reader_need, defBody s_Reader_need, defScope s_Reader_need, [], []⟩
def h_are_figures : He.DefD := ⟨("are_figures", none), "are_figures", "are_figures", defArgs s_are_figures, defBody s_are_figures, defScope s_are_figures, [], []⟩
def h_number_in : He.DefD := ⟨("number_in", none), "number_in", "number_in", defArgs s_number_in, defBody s_number_in, defScope s_number_in, [], []⟩
def h_handicap_in : He.DefD := ⟨("handicap_in", none), "handicap_in", "handicap_in", defArgs s_handicap_in, defBody s_handicap_in, defScope s_handicap_in, [], []⟩
def h_is_name : He.DefD := ⟨("is_name", none), "is_name", "is_name", defArgs s_is_name, defBody s_is_name, defScope s_is_name, [], []⟩
def h_Reader_need_name_ : He.DefD := ⟨("Reader", some "need_name"), "need_name", "Reader.need_name", defArgs s_Reader_need_name, defBody s_Reader_need_name, defScope s_Reader_need_name, [], []⟩
def h_Reader_class_line_ : He.DefD := ⟨("Reader", some "class_line"), "class_line", "Reader.class_line", defArgs s_Reader_class_line, defBody s_Reader_class_line, defScope s_Reader_class_line, [], []⟩
def h_Reader_fleets_ : He.DefD := ⟨("Reader", some "fleets"), "fleets", "Reader.fleets", defArgs s_Reader_fleets, defBody s_Reader_fleets, defScope s_Reader_fleets, [], []⟩
def h_Reader_boat_line_ : He.DefD := ⟨("Reader", some "boat_line"), "boat_line", "Reader.boat_line", defArgs s_Reader_boat_line, defBody s_Reader_boat_line, defScope s_Reader_boat_line, [], []⟩
def h_Reader_drops_line_ : He.DefD := ⟨("Reader", some "drops_line"), "drops_line", "Reader.drops_line", defArgs s_Reader_drops_line, defBody s_Reader_drops_line, defScope s_Reader_drops_line, [], []⟩
def h_time_read : He.DefD := ⟨("time_read", none), "time_read", "time_read", defArgs s_time_read, defBody s_time_read, defScope s_time_read, [], []⟩
def h_time_in : He.DefD := ⟨("time_in", none), "time_in", "time_in", defArgs s_time_in, defBody s_time_in, defScope s_time_in, [], []⟩
def h_Reader_race_line_ : He.DefD := ⟨("Reader", some "race_line"), "race_line", "Reader.race_line", defArgs s_Reader_race_line, defBody s_Reader_race_line, defScope s_Reader_race_line, [], []⟩
def h_Reader_went_ : He.DefD := ⟨("Reader", some "went"), "went", "Reader.went", defArgs s_Reader_went, defBody s_Reader_went, defScope s_Reader_went, [], []⟩
def h_Reader_went_through_ : He.DefD := ⟨("Reader", some "went_through"), "went_through", "Reader.went_through", defArgs s_Reader_went_through, defBody s_Reader_went_through, defScope s_Reader_went_through, [], []⟩
def h_read : He.DefD := ⟨("read", none), "read", "read", defArgs s_read, defBody s_read, defScope s_read, [], []⟩
def h__law_is_read : He.DefD := ⟨("_law_is_read", none), "_law_is_read", "_law_is_read", defArgs s__law_is_read, defBody s__law_is_read, defScope s__law_is_read, [], []⟩
def fn : List He.DefD := [h_law, h_FactorHandicap___init___, h_YardHandicap___init___, h_MileHandicap___init___, h_LevelHandicap___init___, h_handicap_of, h_Meeting___init___, h_meeting_of, h_is_whole, h_is_time, h_need_time, h_time_text, h_MileHandicap_word_, h_YardHandicap_word_, h_FactorHandicap_word_, h_LevelHandicap_word_, h_MileHandicap_plain_, h_YardHandicap_plain_, h_FactorHandicap_plain_, h_LevelHandicap_plain_, h_Meeting_plain_, h_MileHandicap_text_, h_YardHandicap_text_, h_FactorHandicap_text_, h_LevelHandicap_text_, h_shown, h__law_mixed, h__law_cell_at, h__law_names, h__law_handicap, h__law_meeting, h__law_time_text, h__law_lines, h__law_strewn, h_Reader___init___, h_Reader_need_, h_are_figures, h_number_in, h_handicap_in, h_is_name, h_Reader_need_name_, h_Reader_class_line_, h_Reader_fleets_, h_Reader_boat_line_, h_Reader_drops_line_, h_time_read, h_time_in, h_Reader_race_line_, h_Reader_went_, h_Reader_went_through_, h_read, h__law_is_read]
def fa : List FaB := [fB (.glo "law"), fFld cs_bearing "bearing", fMk "FactorHandicap", fMk "YardHandicap", fMk "MileHandicap", fMk "LevelHandicap", fB (.glo "handicap_of"), fFld cs_kinds "kinds", fFld cs_crews "crews", fFld cs_limits "limits", fFld cs_runs "runs", fB (.free "dict"), fB (.free "tuple"), fMk "Meeting", fB (.glo "meeting_of"), fB (.free "bool"), fB (.free "int"), fB (.free "isinstance"), fB (.glo "is_whole"), fB (.int "LAST" 359999), fB (.glo "is_time"), fXc "BadTime", fB (.glo "need_time"), fB (.int "HOUR" 3600), fB (.int "MINUTE" 60), fB (.free "divmod"), fB (.free "str"), fB (.glo "time_text"), fMth "MileHandicap" "word", fMth "YardHandicap" "word", fMth "FactorHandicap" "word", fMth "LevelHandicap" "word", fMth "MileHandicap" "plain", fMth "YardHandicap" "plain", fMth "FactorHandicap" "plain", fMth "LevelHandicap" "plain", fMth "Meeting" "plain", fMth "MileHandicap" "text", fMth "YardHandicap" "text", fMth "FactorHandicap" "text", fMth "LevelHandicap" "text", fB (.free "list"), fB (.glo "shown"), fB (.glo "_law_mixed"), fB (.free "len"), fB (.glo "_law_cell_at"), fB (.free "range"), fB (.glo "_law_names"), fB (.glo "_law_handicap"), fB (.free "set"), fB (.free "sorted"), fB (.glo "_law_meeting"), fB (.glo "_law_time_text"), fB (.glo "_law_lines"), fB (.free "enumerate"), fB (.glo "_law_strewn"), fFld cs_classes_R "classes", fFld cs_crews_R "crews", fFld cs_limits_R "limits", fFld cs_runs_R "runs", fFld cs_last_R "last", fFld cs_row_R "row", fMk "Reader", fMth "Reader" "need", fDctC "ORDER" [("class", Kv.one (.int 0)), ("boat", Kv.one (.int 1)), ("drops", Kv.one (.int 2)), ("race", Kv.one (.int 3))], fB (.str "FIGURES" "0123456789"), fB (.free "all"), fB (.glo "are_figures"), fB (.int "MOST_FIGURES" 4), fB (.glo "number_in"), fTupC "NUMBERED" [.str "factor", .str "yard", .str "mile"], fB (.int "MOST_NUMBER" 5000), fB (.glo "handicap_in"), fB (.str "ALL" "all"), fB (.int "MOST_SIGNS" 6), fB (.str "SIGNS" "abcdefghijklmnopqrstuvwxyz0123456789"), fB (.glo "is_name"), fMth "Reader" "need_name", fB (.int "MOST_CLASSES" 6), fMth "Reader" "class_line", fMth "Reader" "fleets", fB (.int "MOST_BOATS" 24), fB (.int "MOST_FLEETS" 3), fMth "Reader" "boat_line", fB (.int "LAST_DROP" 12), fB (.int "MOST_DROPS" 3), fMth "Reader" "drops_line", fB (.glo "time_read"), fSub "BadTime" sub_BadTime, fB (.glo "time_in"), fB (.int "MOST_RACES" 12), fMth "Reader" "race_line", fMth "Reader" "went", fMth "Reader" "went_through", fB (.glo "read"), fIs "Meeting" iso_Meeting, fSys, fB (.free "repr"), fB (.glo "_law_is_read")]
def loose : List PySem.Str := "_wall" :: "RaceError" :: "BadText" :: "BadTime" :: "NoName" :: "LAST" :: "HOUR" :: "MINUTE" :: "FIGURES" :: "is_whole" :: "is_time" :: "need_time" :: "time_text" :: "are_figures" :: "time_read" :: "Handicap" :: "LevelHandicap" :: "FactorHandicap" :: "YardHandicap" :: "MileHandicap" :: "handicap_of" :: "ALL" :: "is_in" :: "Meeting" :: "meeting_of" :: "SIGNS" :: "MOST_SIGNS" :: "MOST_FIGURES" :: "MOST_CLASSES" :: "MOST_BOATS" :: "MOST_FLEETS" :: "MOST_DROPS" :: "LAST_DROP" :: "MOST_RACES" :: "MOST_NUMBER" :: "NUMBERED" :: "ORDER" :: "is_name" :: "number_in" :: "time_in" :: "handicap_in" :: "Reader" :: "read" :: "shown" :: "_law_cell_at" :: "_law_mixed" :: "_law_names" :: "_law_handicap" :: "_law_meeting" :: "_law_time_text" :: "_law_lines" :: "_law_strewn" :: "_law_is_read" :: []
def ts : List (PySem.Str × List PySem.Str) := [("ORDER", ["class", "boat", "drops", "race"])]
abbrev R : PySem.W.OpenRow := PySem.W.OpenLaw.row PySem.Challenge.rw_regattaroll_k11_texts_shown_and_read
abbrev hk : PySem.W.Hook := hookLT (asR 6) fa fn ts
def ob (s : PySem.W.SharedT) : AlLT := obsLT (asR 6 (HandSHeadRun.getT s)) fa fn ts (HandSHeadRun.getT s)
theorem ob_eq (s : PySem.W.SharedT) : ob s = hk.obs s.abs := obsLT_eq (HandSHeadRun.getT_eq s)
section
open PySem.W PySem.Calls HandSHeadRun
theorem runCf (w : World) (os : OsState) : (endF (stepQ (denQ tabQ) R.prog (w.withFollow "special-get-raises" false)) 30000 R.prog (w.withFollow "special-get-raises" false) os).map ob = some (hk.val (w.withFollow "special-get-raises" false)) := by kernel_rfl
theorem runCt (w : World) (os : OsState) : (endF (stepQ (denQ tabQ) R.prog (w.withFollow "special-get-raises" true)) 30000 R.prog (w.withFollow "special-get-raises" true) os).map ob = some (hk.val (w.withFollow "special-get-raises" true)) := by kernel_rfl
theorem runC (w : World) (os : OsState) : (endF (stepQ (denQ tabQ) R.prog w) 30000 R.prog w os).map ob = some (hk.val w) := byRow2 "special-get-raises" (P := fun w => (endF (stepQ (denQ tabQ) R.prog w) 30000 R.prog w os).map ob = some (hk.val w)) (fun w => runCf w os) (fun w => runCt w os) w
theorem runAf (w : World) (os : OsState) : (endF (stepQ (denQ tabQ) R.prog (w.withFollow "special-get-raises" false)) 30000 R.prog (w.withFollow "special-get-raises" false) os).map (fun s => looksF R.prog (boot_heap (w.withFollow "special-get-raises" false).params) s.abs) = some true := by kernel_rfl
theorem runAt (w : World) (os : OsState) : (endF (stepQ (denQ tabQ) R.prog (w.withFollow "special-get-raises" true)) 30000 R.prog (w.withFollow "special-get-raises" true) os).map (fun s => looksF R.prog (boot_heap (w.withFollow "special-get-raises" true).params) s.abs) = some true := by kernel_rfl
theorem runA (w : World) (os : OsState) : (endF (stepQ (denQ tabQ) R.prog w) 30000 R.prog w os).map (fun s => looksF R.prog (boot_heap w.params) s.abs) = some true := byRow2 "special-get-raises" (P := fun w => (endF (stepQ (denQ tabQ) R.prog w) 30000 R.prog w os).map (fun s => looksF R.prog (boot_heap w.params) s.abs) = some true) (fun w => runAf w os) (fun w => runAt w os) w
theorem runBf (w : World) (os : OsState) : (endF (stepQ (denQ tabQ) R.prog (w.withFollow "special-get-raises" false)) 30000 R.prog (w.withFollow "special-get-raises" false) os).map (fun s => seenQ (PySem.W.view R.prog [60]) loose (importedModules R.prog.main.body) (fun s => xlAt (PySem.W.view R.prog [60]) [] s && recOk R.toRowW.records s) s.abs) = some (openGood (PySem.W.view R.prog [60]) loose) := by kernel_rfl
theorem runBt (w : World) (os : OsState) : (endF (stepQ (denQ tabQ) R.prog (w.withFollow "special-get-raises" true)) 30000 R.prog (w.withFollow "special-get-raises" true) os).map (fun s => seenQ (PySem.W.view R.prog [60]) loose (importedModules R.prog.main.body) (fun s => xlAt (PySem.W.view R.prog [60]) [] s && recOk R.toRowW.records s) s.abs) = some (openGood (PySem.W.view R.prog [60]) loose) := by kernel_rfl
theorem runB (w : World) (os : OsState) : (endF (stepQ (denQ tabQ) R.prog w) 30000 R.prog w os).map (fun s => seenQ (PySem.W.view R.prog [60]) loose (importedModules R.prog.main.body) (fun s => xlAt (PySem.W.view R.prog [60]) [] s && recOk R.toRowW.records s) s.abs) = some (openGood (PySem.W.view R.prog [60]) loose) := byRow2 "special-get-raises" (P := fun w => (endF (stepQ (denQ tabQ) R.prog w) 30000 R.prog w os).map (fun s => seenQ (PySem.W.view R.prog [60]) loose (importedModules R.prog.main.body) (fun s => xlAt (PySem.W.view R.prog [60]) [] s && recOk R.toRowW.records s) s.abs) = some (openGood (PySem.W.view R.prog [60]) loose)) (fun w => runBf w os) (fun w => runBt w os) w
end
theorem run (w : World) : HandSHeadRun.RunEq R (PySem.W.view R.prog [60]) hk ob 30000 loose w := fun os => map3 (runA w os) (runB w os) (runC w os)
end Lk11
namespace RL
open PySem PySem.Spec PyProof.Rows L2
theorem ups0 (n : Nat) : ups 0 n = (List.range n).map fun (k : Nat) => D.int (k : Int) := by simp [ups]
theorem nm_set {t : Nat} {d : D} {ρ : Env} (h : t < ρ.length) : (Tg.nm t).set d ρ = some (ρ.set t (some d)) := by simp [Tg.set, h]
theorem for_of {α : Type} {e : α → D} {t : Tg} {S : Env → SRes} (I : List α → Env → Prop) {xs : List α} {ρ : Env} (h0 : I [] ρ) (step : ∀ p x q ρ, xs = p ++ x :: q → I p ρ → ∃ ρ1 ρ2, t.set (e x) ρ = some ρ1 ∧ S ρ1 = .nx ρ2 ∧ I (p ++ [x]) ρ2) :
    ∃ ρ', forRun t S (xs.map e) ρ = .nx ρ' ∧ I xs ρ' := by
  have main : ∀ (q p : List α) (ρ : Env), xs = p ++ q → I p ρ → ∃ ρ', forRun t S (q.map e) ρ = .nx ρ' ∧ I xs ρ' := by
    intro q
    induction q with
    | nil => intro p ρ h hI; rw [List.append_nil] at h; subst h; exact ⟨ρ, rfl, hI⟩
    | cons x q ih =>
      intro p ρ h hI
      obtain ⟨ρ1, ρ2, h1, h2, h3⟩ := step p x q ρ h hI
      obtain ⟨ρ', q1, q2⟩ := ih (p ++ [x]) ρ2 (by rw [h]; simp) h3
      exact ⟨ρ', by rw [List.map_cons, forRun_cons, h1, put_some, andThen_nx, h2, loopK_nx, q1], q2⟩
  exact main xs [] ρ rfl h0
theorem for_nm {α : Type} {e : α → D} {t : Nat} {S : Env → SRes} (I : List α → Env → Prop) {xs : List α} {ρ : Env} (h0 : I [] ρ) (hl : ∀ p ρ, I p ρ → t < ρ.length) (step : ∀ p x q ρ, xs = p ++ x :: q → I p ρ → ∃ ρ2, S (ρ.set t (some (e x))) = .nx ρ2 ∧ I (p ++ [x]) ρ2) :
    ∃ ρ', forRun (.nm t) S (xs.map e) ρ = .nx ρ' ∧ I xs ρ' :=
  for_of I h0 fun p x q ρ h hI => let ⟨ρ2, h2, h3⟩ := step p x q ρ h hI; ⟨_, ρ2, nm_set (hl p ρ hI), h2, h3⟩
theorem for_up {t : Nat} {S : Env → SRes} (I : Nat → Env → Prop) {n : Nat} {ρ : Env} (h0 : I 0 ρ) (hl : ∀ p ρ, I p ρ → t < ρ.length) (step : ∀ i ρ, i < n → I i ρ → ∃ ρ2, S (ρ.set t (some (.int (i : Int)))) = .nx ρ2 ∧ I (i + 1) ρ2) :
    ∃ ρ', forRun (.nm t) S (ups 0 n) ρ = .nx ρ' ∧ I n ρ' := by
  rw [ups0]
  obtain ⟨ρ', h1, h2⟩ := for_nm (e := fun k : Nat => D.int (k : Int)) (t := t) (S := S) (fun p ρ => I p.length ρ) (xs := List.range n) h0 (fun p ρ h => hl _ ρ h) (by
    intro p x q ρ h hI
    have hx : x = p.length := by
      have h1 : (List.range n)[p.length]? = some x := by rw [h]; simp
      rw [List.getElem?_range (by
        have := congrArg List.length h
        simp at this
        omega)] at h1
      exact (Option.some.inj h1).symm
    have hn : p.length < n := by
      have := congrArg List.length h
      simp at this
      omega
    subst hx
    obtain ⟨ρ2, h2, h3⟩ := step p.length ρ hn hI
    exact ⟨ρ2, h2, by rw [List.length_append]; exact h3⟩)
  rw [List.length_range] at h2
  exact ⟨ρ', h1, h2⟩
theorem lc_map {α : Type} {e g : α → D} {Si : Env → Res (List D)} {t : Tg} {vs : List Nat} {T : Env → Res Bool} {E : Env → Res D} {ρ : Env} {xs : List α} (hl : xs.length ≤ 10000) (h : Si ρ = .ok (xs.map e)) (hr : ∀ x ∈ xs, lcOne t vs T E ρ (e x) = .ok (some (g x))) :
    sLc Si t vs T E ρ = .ok (.lst true (xs.map g)) := sLc_ok h (by rw [List.length_map]; unfold sizeLine; omega) (lcRun_of hr)
theorem lc_fl {α : Type} {e g : α → D} {p : α → Bool} {Si : Env → Res (List D)} {t : Tg} {vs : List Nat} {T : Env → Res Bool} {E : Env → Res D} {ρ : Env} {xs : List α} (hl : xs.length ≤ 10000) (h : Si ρ = .ok (xs.map e)) (hr : ∀ x ∈ xs, lcOne t vs T E ρ (e x) = .ok (if p x = true then some (g x) else none)) :
    sLc Si t vs T E ρ = .ok (.lst true ((xs.filter p).map g)) := sLc_ok h (by rw [List.length_map]; unfold sizeLine; omega) (lcRun_fl hr)
theorem lc_up {g : Nat → D} {Si : Env → Res (List D)} {t : Tg} {vs : List Nat} {T : Env → Res Bool} {E : Env → Res D} {ρ : Env} {n : Nat} (hl : n ≤ 10000) (h : Si ρ = .ok (ups 0 n)) (hr : ∀ k, k < n → lcOne t vs T E ρ (.int (k : Int)) = .ok (some (g k))) :
    sLc Si t vs T E ρ = .ok (.lst true ((List.range n).map g)) := lc_map (e := fun k : Nat => D.int (k : Int)) (by rw [List.length_range]; exact hl) (by rw [h, ups0]) fun k hk => hr k (List.mem_range.mp hk)
theorem rng1_nat {n : Nat} (h : n ≤ 1000000) : rng1 [.int (n : Int)] = some (ups 0 n) := by
  have : inR (n : Int) = true := by simp [inR]; omega
  simp [rng1, this]
end RL
namespace RL
open PySem PySem.Spec PyProof.Rows L2
section
variable {α : Type} {k : α → Str} {v : α → D} {xs : List α} {o : Bool} {s : Str}
def dT (o : Bool) (k : α → Str) (v : α → D) (xs : List α) : D := .dct o (xs.map fun x => sk (k x)) (xs.map v)
theorem clean_of (h : ∀ x ∈ xs, (v x).clean = true) : cleanL (xs.map v) = true := cleanL_all.mpr fun d hd => by
  obtain ⟨i, hi, rfl⟩ := List.mem_map.mp hd
  exact h i hi
theorem frzL_map : ∀ xs : List α, frzL (xs.map v) = xs.map fun x => (v x).frz
  | [] => by simp [frzL]
  | x :: xs => by simp [frzL, frzL_map xs]
theorem frz_same (h : ∀ x ∈ xs, (v x).frz = v x) : frzL (xs.map v) = xs.map v := by
  rw [frzL_map]
  exact List.map_congr_left h
theorem dT_clean (h : ∀ x ∈ xs, (v x).clean = true) : (dT false k v xs).clean = true := by
  simp [dT, clean_of h]
theorem dT_frz : (dT o k v xs).frz = dT false k (fun x => (v x).frz) xs := by simp [dT, D.frz, frzL_map]
theorem dT_frz_same (h : ∀ x ∈ xs, (v x).frz = v x) : (dT o k v xs).frz = dT false k v xs := by simp [dT, D.frz, frz_same h]
theorem mkD_T : ∀ {xs : List α} {ks : List Key} {ds : List D}, (∀ x ∈ xs, sk (k x) ∉ ks) → (xs.map k).Nodup → mkD (xs.map fun x => .tup [.str (k x), v x]) ks ds = some (.dct true (ks ++ xs.map fun x => sk (k x)) (ds ++ xs.map v))
  | [], ks, ds, _, _ => by simp [mkD]
  | x :: xs, ks, ds, h, nd => by
    obtain ⟨n1, n2⟩ := List.nodup_cons.mp nd
    have e := putKs_new (h x List.mem_cons_self)
    simp only [List.map_cons, mkD, RL.keyOf, Option.bind_some, putKs, putVs, e]
    rw [mkD_T (fun y hy z => ?_) n2]
    · simp
    · rcases List.mem_append.mp z with z | z
      · exact h y (List.mem_cons_of_mem _ hy) z
      · have : k y = k x := by simpa using z
        exact n1 (this ▸ List.mem_map_of_mem hy)
theorem dict_T (nd : (xs.map k).Nodup) : fDict (.lst o (xs.map fun x => .tup [.str (k x), v x])) = some (dT true k v xs) := by
  have := mkD_T (v := v) (ks := []) (ds := []) (fun x _ => by simp) nd
  simpa [fDict, dT] using this
theorem lookD_T : ∀ {xs : List α} {x : α}, x ∈ xs → (xs.map k).Nodup → lookD (xs.map fun x => sk (k x)) (xs.map v) (sk (k x)) = some (v x)
  | [], _, h, _ => by simp at h
  | y :: ys, x, h, nd => by
    obtain ⟨n1, n2⟩ := List.nodup_cons.mp nd
    simp only [List.map_cons, lookD]
    rcases List.mem_cons.mp h with rfl | h
    · simp
    · have : k y ≠ k x := fun e => n1 (e ▸ List.mem_map_of_mem h)
      have : sk (k y) ≠ sk (k x) := fun e => this (Sum.inr.inj e)
      rw [if_neg this]
      exact lookD_T h n2
theorem ix_T {x : α} (h : x ∈ xs) (nd : (xs.map k).Nodup) : opIx (dT o k v xs) (.str (k x)) = some (v x) := lookD_T h nd
theorem ixOf_T : ∀ {xs : List α}, (ixOf (xs.map fun x => sk (k x)) (sk s)).isSome = decide (s ∈ xs.map k)
  | [] => by simp [ixOf]
  | y :: ys => by
    simp only [List.map_cons, ixOf]
    by_cases h : k y = s
    · simp [h]
    · have h2 : sk (k y) ≠ sk s := fun e => h (Sum.inr.inj e)
      have h3 : ¬ s = k y := fun e => h e.symm
      rw [if_neg h2, Option.isSome_map, ixOf_T]
      simp [h3]
theorem in_T : oIn (.str s) (dT o k v xs) = some (.bl (decide (s ∈ xs.map k))) := by
  simp only [oIn, fIn, dT, RL.keyOf, Option.map_some, ixOf_T]
theorem tupV_T (h : ∀ x ∈ xs, (v x).clean = true) : fTupV (dT o k v xs) = some (.tup (xs.map v)) := by simp [fTupV, dT, clean_of h]
theorem itemsL_T : ∀ xs : List α, itemsL (xs.map fun x => sk (k x)) (xs.map v) = xs.map fun x => .tup [.str (k x), v x]
  | [] => rfl
  | x :: xs => by simp only [List.map_cons, itemsL, itemsL_T xs]; rfl
theorem items_T (h : ∀ x ∈ xs, (v x).clean = true) : itemsD (dT o k v xs) = some (xs.map fun x => .tup [.str (k x), v x]) := by simp [itemsD, dT, clean_of h, itemsL_T]
theorem keysL_T : (xs.map fun x => sk (k x)).map keyD = xs.map fun x => .str (k x) := by
  rw [List.map_map]; rfl
theorem list_T : fListX (dT o k v xs) = some (.lst true (xs.map fun x => .str (k x))) := by
  simp only [fListX, dT, List.length_map, if_true, keysL_T]
end
theorem flats_str : ∀ xs : List Str, (xs.map D.str).mapM D.flat? = some (xs.map V.str)
  | [] => rfl
  | x :: xs => by simp [List.mapM_cons, flats_str xs, D.flat?]
theorem inV_str {x : Str} {xs : List Str} : inV (.str x) (xs.map V.str) = decide (x ∈ xs) := by
  induction xs with
  | nil => rfl
  | cons y ys ih =>
    have e0 : eqV (.str y) (.str x) = decide (y = x) := by
      show (y == x) = _
      by_cases h : y = x
      · simp [h]
      · simp [h]
    have e : inV (.str x) ((y :: ys).map V.str) = (decide (y = x) || inV (.str x) (ys.map V.str)) := by
      show (eqV (.str y) (.str x) || _) = _
      rw [e0]; rfl
    rw [e, ih]
    by_cases h : y = x
    · simp [h]
    · have : ¬ x = y := fun e => h e.symm
      simp [h, this]
theorem in_strs {o : Bool} {x : Str} {xs : List Str} : oIn (.str x) (.lst o (xs.map .str)) = some (.bl (decide (x ∈ xs))) := by
  simp only [oIn, fIn, D.flat?, flats_str, inV_str, Option.map_some]
theorem notin_strs {o : Bool} {x : Str} {xs : List Str} : oNotIn (.str x) (.lst o (xs.map .str)) = some (.bl (!decide (x ∈ xs))) := by
  simp only [oNotIn, fIn, D.flat?, flats_str, inV_str, Option.map_some]
theorem in_strsT {x : Str} {xs : List Str} : oIn (.str x) (.tup (xs.map .str)) = some (.bl (decide (x ∈ xs))) := by
  simp only [oIn, fIn, D.flat?, flats_str, inV_str, Option.map_some]
def nubA {α : Type} [DecidableEq α] : List α → List α → List α
  | acc, [] => acc
  | acc, x :: xs => nubA (if x ∈ acc then acc else acc ++ [x]) xs
theorem nubA_mem {α : Type} [DecidableEq α] {a : α} : ∀ {xs acc : List α}, a ∈ nubA acc xs ↔ a ∈ acc ∨ a ∈ xs
  | [], acc => by simp [nubA]
  | x :: xs, acc => by
    rw [nubA, nubA_mem]
    by_cases h : x ∈ acc
    · rw [if_pos h]
      constructor
      · rintro (z | z)
        · exact .inl z
        · exact .inr (List.mem_cons_of_mem _ z)
      · rintro (z | z)
        · exact .inl z
        · rcases List.mem_cons.mp z with rfl | z
          · exact .inl h
          · exact .inr z
    · rw [if_neg h]
      simp [or_assoc]
theorem nubA_nodup {α : Type} [DecidableEq α] : ∀ {xs acc : List α}, acc.Nodup → (nubA acc xs).Nodup
  | [], acc, h => h
  | x :: xs, acc, h => by
    rw [nubA]
    refine nubA_nodup ?_
    split
    · exact h
    · rename_i n
      rw [List.nodup_append]
      exact ⟨h, by simp, fun a ha b hb => by rw [List.mem_singleton.mp hb]; rintro rfl; exact n ha⟩
theorem nubA_len {α : Type} [DecidableEq α] : ∀ {xs acc : List α}, (nubA acc xs).length ≤ acc.length + xs.length
  | [], acc => by simp [nubA]
  | x :: xs, acc => by
    rw [nubA]
    refine Nat.le_trans nubA_len ?_
    split <;> simp <;> omega
abbrev nub {α : Type} [DecidableEq α] (xs : List α) : List α := nubA [] xs
theorem ixOf_sk {s : Str} {xs : List Str} : (ixOf (xs.map sk) (sk s)).isSome = decide (s ∈ xs) := by
  have := ixOf_T (k := fun x : Str => x) (s := s) (xs := xs)
  simpa using this
theorem mkD_nub : ∀ {xs acc : List Str}, mkD (xs.map fun x => .tup [.str x, .bl true]) (acc.map sk) (acc.map fun _ => D.bl true) = some (dT true (fun x => x) (fun _ => .bl true) (nubA acc xs))
  | [], acc => rfl
  | x :: xs, acc => by
    have e := ixOf_sk (s := x) (xs := acc)
    simp only [List.map_cons, mkD, RL.keyOf, Option.bind_some, putKs, putVs, nubA]
    cases q : ixOf (acc.map sk) (sk x) with
    | none =>
      have hx : x ∉ acc := by
        rw [q] at e
        simpa using e
      simp only [q, if_neg hx]
      have := mkD_nub (xs := xs) (acc := acc ++ [x])
      simpa using this
    | some j =>
      have hx : x ∈ acc := by
        rw [q] at e
        simpa using e
      simp only [q, if_pos hx]
      have same : (acc.map fun _ => D.bl true).set j (.bl true) = acc.map fun _ => D.bl true := by
        apply List.ext_getElem?
        intro i
        rw [List.getElem?_set]
        split
        · rename_i h
          subst h
          rw [List.getElem?_map, List.length_map]
          split
          · rename_i h2
            rw [List.getElem?_eq_getElem h2]; rfl
          · rename_i h2
            rw [List.getElem?_eq_none (by omega)]; rfl
        · rfl
      rw [same]
      exact mkD_nub
theorem dict_nub {o : Bool} {xs : List Str} : fDict (.lst o (xs.map fun x => .tup [.str x, .bl true])) = some (dT true (fun x => x) (fun _ => .bl true) (nub xs)) := mkD_nub (acc := [])
end RL
namespace RL
open PySem PySem.Spec PyProof.Rows L2
section
variable {X : Cx} {W : WX} {e f o : Expr} {apos cpos : Pos} {Sa Sf So : Env → Res D}
def getD2 (d y z : D) : Option D := match d with
  | .dct _ ks ds => (keyOf y).bind fun k => if cleanL ds = true then some ((lookD ks ds k).getD z) else none
  | _ => none
def sGet2 (So Sk Sf : Env → Res D) : Env → Res D := fun ρ => (So ρ).bind fun x => if isDct x = true then (Sk ρ).bind fun y => (Sf ρ).bind fun z => opt (getD2 x y z) else .bad
end
@[simp] theorem sGet2_ap {So Sk Sf : Env → Res D} {ρ : Env} : sGet2 So Sk Sf ρ = (So ρ).bind fun x => if isDct x = true then (Sk ρ).bind fun y => (Sf ρ).bind fun z => opt (getD2 x y z) else .bad := rfl
section
variable {α : Type} {k : α → Str} {v : α → D} {xs : List α} {o : Bool} {s : Str}
end
end RL
namespace L2
open PySem PySem.Spec PyProof.Rows HT
section
variable {prog : Program} {w : World} {A : Around} {E : Value → Shared → Prop} {s : Shared}
end
section
variable {X : Cx}
end
end L2
namespace RL
open PySem PySem.Spec PyProof.Rows L2
section
variable {X : Cx} {W : WX} {e : Expr} {S : Env → Res D} {pos : Pos}
end
end RL
namespace RN
open PySem RL
def t__law_mixed_0 : RL.Env → SRes := (sAsg (.nm 2) true (s2 opMod (s2 opAdd (s2 opAdd (s2 opMul (sVarB 0) (sC (.int 48271))) (s2 opMul (sC (.int 7919)) (sVarB 1))) (sC (.int 11))) (sC (.int 1000003))))
def t__law_mixed_1 : RL.Env → SRes := (sRet (s2 opMod (s2 opMul (s2 opMod (s2 opMul (sVarB 2) (sVarB 2)) (sC (.int 1000003))) (sVarB 2)) (sC (.int 1000003))))
def b__law_mixed : RL.Env → SRes := (sThen t__law_mixed_0
    t__law_mixed_1)
def f__law_mixed : List D → FR := runDef 3 [] b__law_mixed
def t__law_names_0 : RL.Env → SRes := (sAsg (.nm 2) true (sC (.str "abcdefghijklmnopqrstuvwxyz0123456789")))
def l__law_names_1 : RL.Env → Res D := (sLc (sI rng1 (sCons (sC (.int 6)) sNil)) (.nm 10) [10] sYes (sCl (sIx (sVarB 2) (s2 opMod (sCallF 2 f__law_mixed (sCons (sVar 0) (sCons (sVar 10) sNil))) (sC (.int 36))))))
def t__law_names_2 : RL.Env → SRes := (sAsg (.nm 3) true l__law_names_1)
def t__law_names_3 : RL.Env → SRes := (sAsg (.nm 4) true (s2 opMod (sCallF 2 f__law_mixed (sCons (sVar 0) (sCons (sC (.int 8)) sNil))) (sC (.int 6))))
def t__law_names_4 : RL.Env → SRes := (sAsg (.nm 5) true (s2 opAdd (s2 opAdd (sVarB 4) (sC (.int 1))) (s2 opMod (sCallF 2 f__law_mixed (sCons (sVar 0) (sCons (sC (.int 9)) sNil))) (s2 opSub (sC (.int 6)) (sVarB 4)))))
def t__law_names_5 : RL.Env → SRes := (sAsg (.nm 6) true (sIx (sLst (sCons (sC (.int 1)) (sCons (sC (.int 5)) (sCons (sC (.int 7)) (sCons (sC (.int 11)) (sCons (sC (.int 13)) (sCons (sC (.int 17)) sNil))))))) (s2 opMod (sCallF 2 f__law_mixed (sCons (sVar 0) (sCons (sC (.int 10)) sNil))) (sC (.int 6)))))
def t__law_names_6 : RL.Env → SRes := (sAsg (.nm 7) false (sLst sNil))
def t__law_names_7 : RL.Env → SRes := (sAsg (.nm 9) true (sCl (sIx (sVarB 2) (s2 opMod (s2 opAdd (sCallF 2 f__law_mixed (sCons (sVar 0) (sCons (sC (.int 11)) sNil))) (s2 opMul (sVarB 6) (sVarB 8))) (sC (.int 36))))))
def t__law_names_8 : RL.Env → SRes := (sMut mAppend (plVar 7) (sCons (sM1 fJoin (sC (.str "")) (s2 opAdd (s2 opAdd (sSl (sVarB 3) sPn (sPs (sVarB 4))) (sLst (sCons (sVar 9) sNil))) (sSl (sVarB 3) (sPs (s2 opAdd (sVarB 4) (sC (.int 1)))) (sPs (sVarB 5))))) sNil))
def k__law_names_9 : RL.Env → SRes := (sThen t__law_names_7
    t__law_names_8)
def t__law_names_9 : RL.Env → SRes := (sFor (sI rng1 (sCons (s2 opAdd (sVarB 1) (sC (.int 1))) sNil)) (.nm 8)
    k__law_names_9)
def l__law_names_10 : RL.Env → Res D := (sLc (sSeq (sVarB 7)) (.nm 11) [11] (sTest (s2 opNe (sVarB 11) (sC (.str "all")))) (sVar 11))
def t__law_names_11 : RL.Env → SRes := (sRet (sSl l__law_names_10 sPn (sPs (sVarB 1))))
def b__law_names : RL.Env → SRes := (sThen t__law_names_0
    (sThen t__law_names_2
    (sThen t__law_names_3
    (sThen t__law_names_4
    (sThen t__law_names_5
    (sThen t__law_names_6
    (sThen t__law_names_9
    t__law_names_11)))))))
def f__law_names : List D → FR := runDef 12 [] b__law_names
end RN
namespace RN
open PySem RL L2
def mixI (n k : Int) : Int := let r := (n * 48271 + 7919 * k + 11) % 1000003; r * r % 1000003 * r % 1000003
theorem mix_eq {n k : Int} (hk : -(2 ^ 64) < k ∧ k < 2 ^ 64) : f__law_mixed [.int n, .int k] = .ok (.int (mixI n k)) [] := by
  have m1 := mulOk_r (i := n) (j := 48271) (by decide) (by decide)
  have m2 := mulOk_r (i := 7919) hk.1 hk.2
  have hm (x : Int) : 0 ≤ x % 1000003 ∧ x % 1000003 < 1000003 := ⟨Int.emod_nonneg _ (by decide), Int.emod_lt_of_pos _ (by decide)⟩
  unfold mixI
  have r0 := hm (n * 48271 + 7919 * k + 11)
  generalize hr : (n * 48271 + 7919 * k + 11) % 1000003 = r at *
  have m3 := mulOk_r (i := r) (j := r) (by omega) (by omega)
  have s0 := hm (r * r)
  simp only
  generalize hs : r * r % 1000003 = s at *
  have m4 := mulOk_r (i := s) (j := r) (by omega) (by omega)
  rw [f__law_mixed, runDef_ap]
  simp [b__law_mixed, t__law_mixed_0, t__law_mixed_1, entry, opMul_i m1, opMul_i m2, opMul_i m3, opMul_i m4, opMod_i (show (1000003 : Int) ≠ 0 by decide), Int.fmod_eq_emod_of_nonneg, hr, hs]
def signs : List Nat := [97, 98, 99, 100, 101, 102, 103, 104, 105, 106, 107, 108, 109, 110, 111, 112, 113, 114, 115, 116, 117, 118, 119, 120, 121, 122, 48, 49, 50, 51, 52, 53, 54, 55, 56, 57]
abbrev sS : Str := "abcdefghijklmnopqrstuvwxyz0123456789"
theorem signs_eq : sS.cps.toList = signs := by decide +kernel
theorem sS_len : sS.length = 36 := by decide +kernel
def one (c : Nat) : Str := ⟨#[c]⟩
def sg (i : Int) : Nat := signs.getD i.toNat 0
theorem sg_at {i : Int} (h0 : 0 ≤ i) (h : i < 36) : opIx (.str sS) (.int i) = some (.str (one (sg i))) := by
  obtain ⟨n, rfl⟩ := Int.eq_ofNat_of_zero_le h0
  have hz : sS.length ≤ sizeLine := by rw [sS_len]; decide
  show (if sS.length ≤ sizeLine then (atI sS.cps.toList ((n : Nat) : Int)).map fun c => D.str ⟨#[c]⟩ else none) = _
  rw [if_pos hz, signs_eq, RL.atI_nat]
  have hn : n < signs.length := by show n < 36; omega
  rw [List.getElem?_eq_getElem hn]
  show _ = some (D.str (one (signs.getD (n : Int).toNat 0)))
  simp [one, List.getD, List.getElem?_eq_getElem hn]
theorem sg_mem {i : Int} (h0 : 0 ≤ i) (h : i < 36) : sg i ∈ signs := by
  obtain ⟨n, rfl⟩ := Int.eq_ofNat_of_zero_le h0
  have hn : n < signs.length := by show n < 36; omega
  simp [sg, List.getD, List.getElem?_eq_getElem hn]
theorem signs_nodup : signs.Nodup := by decide
theorem sg_inj {i j : Int} (h0 : 0 ≤ i) (h : i < 36) (g0 : 0 ≤ j) (g : j < 36) (e : sg i = sg j) : i = j := by
  obtain ⟨n, rfl⟩ := Int.eq_ofNat_of_zero_le h0
  obtain ⟨m, rfl⟩ := Int.eq_ofNat_of_zero_le g0
  have hn : n < signs.length := by show n < 36; omega
  have hm : m < signs.length := by show m < 36; omega
  simp only [sg, List.getD, Int.toNat_natCast, List.getElem?_eq_getElem hn, List.getElem?_eq_getElem hm, Option.getD_some] at e
  have := (List.getElem_inj signs_nodup).mp e
  omega
structure Nm (x : Str) : Prop where
  sg : ∀ c ∈ x.cps.toList, c ∈ signs
  lo : 1 ≤ x.length
  hi : x.length ≤ 6
  all : x ≠ "all"
theorem join_ones : ∀ cs : List Nat, Txt.join "" (cs.map one) = ⟨cs.toArray⟩ := by
  intro cs
  rw [show Txt.join "" (cs.map one) = Str.join "" (cs.map one) from StrLaws.glued_eq_join _ _]
  apply TL.ext_tl
  rw [TL.tl_join]
  show TL.joinL (TL.tl "") ((cs.map one).map TL.tl) = cs
  have e : TL.tl ("" : Str) = [] := by decide +kernel
  rw [e]
  induction cs with
  | nil => rfl
  | cons c cs ih =>
    cases cs with
    | nil => rfl
    | cons d cs =>
      show TL.tl (one c) ++ ([] ++ TL.joinL [] ((one d :: cs.map one).map TL.tl)) = c :: d :: cs
      rw [List.nil_append]
      have : TL.joinL [] ((one d :: cs.map one).map TL.tl) = d :: cs := ih
      rw [this]
      rfl
def rowAt (row : List Nat) (a l : Nat) (c : Nat) : List Nat := row.take a ++ [c] ++ (row.drop (a + 1)).take (l - (a + 1))
theorem rowAt_at {row : List Nat} {a l c : Nat} (h : a < row.length) : (rowAt row a l c)[a]? = some c := by
  unfold rowAt
  rw [List.append_assoc, List.getElem?_append_right (by rw [List.length_take]; omega), List.length_take, Nat.min_eq_left (by omega), Nat.sub_self]
  rfl
theorem rowAt_len {row : List Nat} {a l c : Nat} (h : a < row.length) (hl : a < l) (hl2 : l ≤ row.length) : (rowAt row a l c).length = l := by
  unfold rowAt
  simp only [List.length_append, List.length_take, List.length_drop, List.length_singleton]
  omega
def stepOk (s : Int) : Prop := s = 1 ∨ s = 5 ∨ s = 7 ∨ s = 11 ∨ s = 13 ∨ s = 17
theorem step_inj {s m : Int} {i j : Nat} (h : stepOk s) (hi : i < 36) (hj : j < 36) (e : (m + s * i) % 36 = (m + s * j) % 36) : i = j := by
  rcases h with rfl | rfl | rfl | rfl | rfl | rfl <;> omega
def nameOf (row : List Nat) (a l : Nat) (m s : Int) (k : Nat) : Str := ⟨(rowAt row a l (sg ((m + s * k) % 36))).toArray⟩
theorem nameOf_inj {row : List Nat} {a l : Nat} {m s : Int} {i j : Nat} (ha : a < row.length) (h : stepOk s) (hi : i < 36) (hj : j < 36) (e : nameOf row a l m s i = nameOf row a l m s j) : i = j := by
  have e1 : rowAt row a l (sg ((m + s * i) % 36)) = rowAt row a l (sg ((m + s * j) % 36)) := by
    have := congrArg (fun x : Str => x.cps.toList) e
    simpa [nameOf] using this
  have e2 := rowAt_at (l := l) (c := sg ((m + s * i) % 36)) ha
  rw [e1, rowAt_at ha] at e2
  exact step_inj h hi hj (sg_inj (Int.emod_nonneg _ (by decide)) (Int.emod_lt_of_pos _ (by decide)) (Int.emod_nonneg _ (by decide)) (Int.emod_lt_of_pos _ (by decide)) (Option.some.inj e2).symm)
abbrev sone (c : Nat) : D := .str (one c)
abbrev Enm (n : Int) (many : Nat) (row : List Nat) (a l : Nat) (s : Int) (fd : List Str) (c8 c9 : Option D) : RL.Env :=
  [some (.int n), some (.int many), some (.str sS), some (.lst false (row.map sone)), some (.int a), some (.int l), some (.int s), some (.lst true (fd.map .str)), c8, c9, none, none]
theorem cleanL_ones (xs : List Nat) : cleanL (xs.map sone) = true := cleanL_all.mpr fun d hd => by
  obtain ⟨i, _, rfl⟩ := List.mem_map.mp hd
  rfl
theorem frzL_ones : ∀ xs : List Nat, frzL (xs.map sone) = xs.map sone
  | [] => by simp [frzL]
  | n :: ns => by simp [frzL, D.frz, frzL_ones ns]
theorem strsD_ones (ys : List Nat) : strsD (ys.map sone) = some (ys.map one) := by
  have := strsD_map (ys.map one)
  rwa [List.map_map] at this
theorem ones_len (ys : List Nat) : ((ys.map one).map (·.length)).sum = ys.length := by
  induction ys with
  | nil => rfl
  | cons y ys ih => simp only [List.map_cons, List.sum_cons, ih, List.length_cons]; show 1 + _ = _; omega
theorem join_row {cs : List Nat} (h : cs.length ≤ 100) {o : Bool} : fJoin "" (.lst o (cs.map sone)) = some (.str ⟨cs.toArray⟩) := by
  have e : ("" : Str).length = 0 := by decide +kernel
  have k : joinOk "" (cs.map one) = true := by
    unfold joinOk
    rw [ones_len, e, List.length_map]
    exact decide_eq_true (by omega)
  show ((strsD (cs.map sone)).bind fun ys => if joinOk "" ys = true then some (D.str (Txt.join "" ys)) else none) = _
  rw [strsD_ones, Option.bind_some, if_pos k, join_ones]
theorem k_eq {n : Int} {many : Nat} {row : List Nat} {a l : Nat} {s : Int} {fd : List Str} {c9 : Option D} {k : Nat} (hr : row.length = 6) (ha : a < 6) (hl : a < l) (hl2 : l ≤ 6) (hs : stepOk s) (hf : fd.length ≤ 100) :
    k__law_names_9 (Enm n many row a l s fd (some (.int k)) c9) = .nx (Enm n many row a l s (fd ++ [nameOf row a l (mixI n 11) s k]) (some (.int k)) (some (sone (sg ((mixI n 11 + s * k) % 36))))) := by
  have m := mix_eq (n := n) (k := 11) (by decide)
  have mk : mulOk s k = true := by
    refine mulOk_l ?_ ?_ <;> (rcases hs with rfl | rfl | rfl | rfl | rfl | rfl <;> decide)
  generalize hv : mixI n 11 = v at *
  have g := sg_at (i := (v + s * k) % 36) (Int.emod_nonneg _ (by decide)) (Int.emod_lt_of_pos _ (by decide))
  have md := mod_pos' (i := v + s * k) (j := 36) (by decide)
  generalize hc : sg ((v + s * k) % 36) = c at *
  have s1 := opSl_l (o := false) (lo := none) (hi := some (a : Int)) (cleanL_ones row)
  have s2 := opSl_l (o := false) (lo := some ((a : Int) + 1)) (hi := some (l : Int)) (cleanL_ones row)
  rw [cut_0n, ← List.map_take] at s1
  rw [show ((a : Int) + 1) = ((a + 1 : Nat) : Int) by omega, cut_nn, ← List.map_drop, ← List.map_take] at s2
  have a1 := opAdd_l (o := true) (o' := true) (cleanL_ones (row.take a)) (show cleanL [sone c] = true from by simp) (by simp [sizeLine]; omega)
  have a2 := opAdd_l (o := true) (o' := true) (xs := (row.take a).map sone ++ [sone c]) (by rw [cleanL_app, cleanL_ones]; rfl) (cleanL_ones ((row.drop (a + 1)).take (l - (a + 1)))) (by simp [sizeLine]; omega)
  have e : (row.take a).map sone ++ [sone c] ++ ((row.drop (a + 1)).take (l - (a + 1))).map sone = (rowAt row a l c).map sone := by simp [rowAt]
  rw [e] at a2
  have jn := join_row (cs := rowAt row a l c) (o := true) (by rw [rowAt_len (by omega) hl (by omega)]; omega)
  have fl : fd.length < sizeLine := by unfold sizeLine; omega
  have z1 : 1 ≤ sizeLine := by decide
  have e2 : (⟨(rowAt row a l c).toArray⟩ : Str) = nameOf row a l v s k := by rw [nameOf, hc]
  unfold k__law_names_9
  simp [t__law_names_7, t__law_names_8, m, opMul_i mk, md, g, s1, a1, z1, a2, jn, fl, e2, -List.map_take, -List.map_drop, -List.map_append]
  rw [show ((a : Int) + 1) = ((a + 1 : Nat) : Int) by omega, s2]
  simp [a1, a2, jn, fl, e2, -List.map_take, -List.map_drop, -List.map_append]
  simp
def rowOf (n : Int) : List Nat := (List.range 6).map fun (j : Nat) => sg (mixI n j % 36)
theorem row_lc {n : Int} {a b c d e f g h i j : Option D} : l__law_names_1 [some (.int n), a, some (.str sS), b, c, d, e, f, g, h, i, j] = .ok (.lst true ((rowOf n).map sone)) := by
  refine sLc_ok (ds := (List.range 6).map fun k => D.int ((k : Nat) : Int)) (by
    simp [rng1, ups]
    rfl) (by simp [sizeLine]) ?_
  unfold rowOf
  rw [List.map_map]
  refine lcRun_of fun k hk => ?_
  have hk : k < 6 := List.mem_range.mp hk
  have m := mix_eq (n := n) (k := (k : Int)) (by omega)
  have md := mod_pos' (i := mixI n k) (j := 36) (by decide)
  have gg := sg_at (i := mixI n k % 36) (Int.emod_nonneg _ (by decide)) (Int.emod_lt_of_pos _ (by decide))
  simp [lcOne, wipeE, Tg.set, m, md, gg]
theorem all_lc {xs : List Str} {n p a b c d e f g i j : Option D} (hl : xs.length ≤ 1000) : l__law_names_10 [n, p, a, b, c, d, e, some (.lst true (xs.map .str)), f, g, i, j] = .ok (.lst true ((xs.filter (fun x : Str => !decide (x = ("all" : Str)))).map .str)) := by
  refine sLc_ok (ds := xs.map .str) (by simp) (by rw [List.length_map]; unfold sizeLine; omega) ?_
  refine lcRun_fl fun x hx => ?_
  simp [lcOne, wipeE, Tg.set]
  split <;> simp
theorem filter_len {xs : List Str} (h : xs.Nodup) (a : Str) : xs.length ≤ (xs.filter fun x : Str => !decide (x = a)).length + 1 := by
  induction xs with
  | nil => simp
  | cons x xs ih =>
    obtain ⟨h1, h2⟩ := List.nodup_cons.mp h
    rw [List.filter_cons]
    by_cases e : x = a
    · subst e
      have : (xs.filter fun y => !decide (y = x)) = xs := List.filter_eq_self.mpr fun y hy => by
        have : y ≠ x := fun z => h1 (z ▸ hy)
        simp [this]
      simp [this]
    · simp [e]
      exact Nat.le_trans (Nat.le_of_eq rfl) (by have := ih h2; omega)
theorem mod_in (a : Int) {b : Int} (h : 0 < b) : 0 ≤ a % b ∧ a % b < b := ⟨Int.emod_nonneg _ (by omega), Int.emod_lt_of_pos _ h⟩
theorem loop_eq {n : Int} {many a l : Nat} {s : Int} {row : List Nat} (hr : row.length = 6) (h : many ≤ 34) (ha : a < 6) (hl : a < l) (hl2 : l ≤ 6) (hs : stepOk s) :
    ∃ c8 c9, forRun (.nm 8) k__law_names_9 (ups 0 (many + 1)) (Enm n many row a l s [] none none) = .nx (Enm n many row a l s ((List.range (many + 1)).map (nameOf row a l (mixI n 11) s)) c8 c9) := by
  obtain ⟨ρ', hf, hI⟩ := for_inv (t := .nm 8) (S := k__law_names_9) (fun k ρ => ∃ c8 c9, ρ = Enm n many row a l s ((List.range k).map (nameOf row a l (mixI n 11) s)) c8 c9)
    (ds := ups 0 (many + 1)) (k := 0) (ρ := Enm n many row a l s [] none none) ⟨none, none, rfl⟩ (by
      rintro i d ρ hd ⟨c8, c9, rfl⟩
      have hi : i < many + 1 := by
        have := (List.getElem?_eq_some_iff.mp hd).1
        rwa [ups_len] at this
      have ed : d = .int (i : Nat) := by
        simp [ups, hi] at hd
        exact hd.symm
      subst ed
      have st := k_eq (n := n) (many := many) (row := row) (a := a) (l := l) (s := s) (fd := (List.range (0 + i)).map (nameOf row a l (mixI n 11) s)) (c9 := c9) (k := i) hr ha hl hl2 hs (by simp; omega)
      refine ⟨_, _, by simp [Tg.set], st, some (.int (i : Nat)), some (sone (sg ((mixI n 11 + s * (i : Int)) % 36))), ?_⟩
      rw [Nat.zero_add, List.range_succ, List.map_append]
      rfl)
  obtain ⟨c8, c9, rfl⟩ := hI
  rw [ups_len, Nat.zero_add] at hf
  exact ⟨c8, c9, hf⟩
theorem pick6 {m : Int} (h0 : 0 ≤ m) (h6 : m < 6) : ∃ s, atI [D.int 1, .int 5, .int 7, .int 11, .int 13, .int 17] m = some (.int s) ∧ stepOk s := by
  obtain ⟨sv, hs1, hs2⟩ := ix_mem (xs := [D.int 1, .int 5, .int 7, .int 11, .int 13, .int 17]) h0 h6
  simp only [List.mem_cons, List.not_mem_nil, or_false] at hs2
  rcases hs2 with rfl | rfl | rfl | rfl | rfl | rfl
  · exact ⟨1, hs1, by simp [stepOk]⟩
  · exact ⟨5, hs1, by simp [stepOk]⟩
  · exact ⟨7, hs1, by simp [stepOk]⟩
  · exact ⟨11, hs1, by simp [stepOk]⟩
  · exact ⟨13, hs1, by simp [stepOk]⟩
  · exact ⟨17, hs1, by simp [stepOk]⟩
theorem run_eq {n m8 m9 m10 : Int} {many a r : Nat} {s : Int} {xs : List Str} {c8 c9 : Option D} (h : many ≤ 34) (hx : xs.length ≤ 1000) (m8e : f__law_mixed [D.int n, D.int 8] = FR.ok (D.int m8) []) (m9e : f__law_mixed [D.int n, D.int 9] = FR.ok (D.int m9) [])
    (m10e : f__law_mixed [D.int n, D.int 10] = FR.ok (D.int m10) []) (q8 : opMod (D.int m8) (D.int 6) = some (D.int a)) (q9 : opMod (D.int m9) (D.int (6 - ↑a)) = some (D.int r)) (q10 : opMod (D.int m10) (D.int 6) = some (D.int (m10 % 6)))
    (hs1 : atI [D.int 1, D.int 5, D.int 7, D.int 11, D.int 13, D.int 17] (m10 % 6) = some (D.int s)) (hf : forRun (.nm 8) k__law_names_9 (ups 0 (many + 1)) (Enm n many (rowOf n) a (a + 1 + r) s [] none none) = .nx (Enm n many (rowOf n) a (a + 1 + r) s xs c8 c9)) :
    f__law_names [.int n, .int many] = .ok (.lst true (((xs.filter fun x : Str => !decide (x = ("all" : Str))).take many).map .str)) [] := by
  have hr1 : rng1 [.int ((many : Int) + 1)] = some (ups 0 (many + 1)) := by
    have : inR ((many : Int) + 1) = true := by simp [inR]; omega
    simp [rng1, this]
  have sl := opSl_l (o := true) (lo := none) (hi := some (many : Int)) (cleanL_strs (ns := xs.filter fun x : Str => !decide (x = ("all" : Str))))
  rw [cut_0n, ← List.map_take] at sl
  have z6 : 6 ≤ sizeLine := by decide
  have e0 : t__law_names_0 [some (.int n), some (.int many), none, none, none, none, none, none, none, none, none, none] = .nx [some (.int n), some (.int many), some (.str sS), none, none, none, none, none, none, none, none, none] := by simp [t__law_names_0]
  have e2 : t__law_names_2 [some (.int n), some (.int many), some (.str sS), none, none, none, none, none, none, none, none, none] = .nx [some (.int n), some (.int many), some (.str sS), some (.lst false ((rowOf n).map sone)), none, none, none, none, none, none, none, none] := by
    simp [t__law_names_2, row_lc, frzL_ones]
  generalize rowOf n = row at *
  have e3 : t__law_names_3 [some (.int n), some (.int many), some (.str sS), some (.lst false (row.map sone)), none, none, none, none, none, none, none, none] = .nx [some (.int n), some (.int many), some (.str sS), some (.lst false (row.map sone)), some (.int a), none, none, none, none, none, none, none] := by
    simp [t__law_names_3, m8e, q8]
  have e4 : t__law_names_4 [some (.int n), some (.int many), some (.str sS), some (.lst false (row.map sone)), some (.int a), none, none, none, none, none, none, none] = .nx [some (.int n), some (.int many), some (.str sS), some (.lst false (row.map sone)), some (.int a), some (.int (a + 1 + r : Nat)), none, none, none, none, none, none] := by
    simp [t__law_names_4, m9e, q9]
  have e5 : t__law_names_5 [some (.int n), some (.int many), some (.str sS), some (.lst false (row.map sone)), some (.int a), some (.int (a + 1 + r : Nat)), none, none, none, none, none, none] = .nx [some (.int n), some (.int many), some (.str sS), some (.lst false (row.map sone)), some (.int a), some (.int (a + 1 + r : Nat)), some (.int s), none, none, none, none, none] := by
    simp [t__law_names_5, m10e, q10, hs1, z6]
  have e6 : t__law_names_6 [some (.int n), some (.int many), some (.str sS), some (.lst false (row.map sone)), some (.int a), some (.int (a + 1 + r : Nat)), some (.int s), none, none, none, none, none] = .nx (Enm n many row a (a + 1 + r) s [] none none) := by
    simp [t__law_names_6]
  have e9 : t__law_names_9 (Enm n many row a (a + 1 + r) s [] none none) = .nx (Enm n many row a (a + 1 + r) s xs c8 c9) := by
    have e : (sCons (s2 opAdd (sVarB 1) (sC (.int 1))) sNil) (Enm n many row a (a + 1 + r) s [] none none) = .ok [.int ((many : Int) + 1)] := by simp
    rw [t__law_names_9, sFor_ap, sI_ap, e, bind_ok, hr1, opt_some, stm_ok]
    exact hf
  have e11 : t__law_names_11 (Enm n many row a (a + 1 + r) s xs c8 c9) = .rt (.lst true (((xs.filter fun x : Str => !decide (x = ("all" : Str))).take many).map .str)) (Enm n many row a (a + 1 + r) s xs c8 c9) := by
    rw [t__law_names_11, sRet_ap, sSl_ap, all_lc hx]
    simp [sl, -List.map_take]
  rw [f__law_names, runDef_ap]
  unfold b__law_names
  rw [sThen_ap, show entry 12 [D.int n, D.int many] = [some (.int n), some (.int many), none, none, none, none, none, none, none, none, none, none] from rfl, e0, andThen_nx, sThen_ap, e2, andThen_nx, sThen_ap, e3, andThen_nx, sThen_ap, e4, andThen_nx, sThen_ap, e5, andThen_nx, sThen_ap, e6, andThen_nx, sThen_ap, e9, andThen_nx, e11]
  rfl
theorem rowOf_len (n : Int) : (rowOf n).length = 6 := by simp [rowOf]
theorem rowOf_mem (n : Int) : ∀ c ∈ rowOf n, c ∈ signs := fun c hc => by
  obtain ⟨j, _, rfl⟩ := List.mem_map.mp hc
  exact sg_mem (mod_in _ (by decide)).1 (mod_in _ (by decide)).2
theorem list_eq {row : List Nat} {many a l : Nat} {m s : Int} (hr : row.length = 6) (hm : ∀ c ∈ row, c ∈ signs) (h : many ≤ 34) (ha : a < 6) (hl : a < l) (hl2 : l ≤ 6) (hs : stepOk s) : ∃ xs : List Str, xs = (((List.range (many + 1)).map (nameOf row a l m s)).filter fun x : Str => !decide (x = ("all" : Str))).take many ∧
    xs.Nodup ∧ xs.length = many ∧ ∀ x ∈ xs, Nm x := by
  generalize hxs : (List.range (many + 1)).map (nameOf row a l m s) = xs
  have nd : xs.Nodup := by
    rw [← hxs]
    refine List.Pairwise.map (R := fun i j => i ≠ j ∧ i < 36 ∧ j < 36) _ (fun i j hij e => hij.1 (nameOf_inj (by omega) hs hij.2.1 hij.2.2 e)) ?_
    refine List.Pairwise.imp_of_mem (R := fun i j => i ≠ j) (fun {i j} hi hj hne => ⟨hne, ?_, ?_⟩) List.nodup_range
    · have := List.mem_range.mp hi; omega
    · have := List.mem_range.mp hj; omega
  have xl : xs.length = many + 1 := by rw [← hxs]; simp
  have nms : ∀ x ∈ xs, (∀ c ∈ x.cps.toList, c ∈ signs) ∧ x.length = l := by
    intro x hx
    rw [← hxs] at hx
    obtain ⟨k, hk, rfl⟩ := List.mem_map.mp hx
    refine ⟨fun c hc => ?_, ?_⟩
    · simp only [nameOf, rowAt, List.toList_toArray, List.mem_append, List.mem_singleton] at hc
      rcases hc with (hc | hc) | hc
      · exact hm c (List.mem_of_mem_take hc)
      · rw [hc]; exact sg_mem (mod_in _ (by decide)).1 (mod_in _ (by decide)).2
      · exact hm c (List.mem_of_mem_drop (List.mem_of_mem_take hc))
    · show (rowAt _ _ _ _).toArray.size = _
      rw [List.size_toArray, rowAt_len (by omega) (by omega) (by omega)]
  refine ⟨_, rfl, (nd.sublist List.filter_sublist).sublist (List.take_sublist _ _), ?_, fun x hx => ?_⟩
  · rw [List.length_take]
    have := filter_len nd "all"
    omega
  · have hx := List.mem_filter.mp (List.mem_of_mem_take hx)
    obtain ⟨n1, n2⟩ := nms x hx.1
    exact ⟨n1, by omega, by omega, by simpa using hx.2⟩
theorem names_eq {n : Int} {many : Nat} (h : many ≤ 34) : ∃ xs : List Str, f__law_names [.int n, .int many] = .ok (.lst true (xs.map .str)) [] ∧ xs.Nodup ∧ xs.length = many ∧ ∀ x ∈ xs, Nm x := by
  have m8 := mix_eq (n := n) (k := 8) (by decide)
  have m9 := mix_eq (n := n) (k := 9) (by decide)
  have m10 := mix_eq (n := n) (k := 10) (by decide)
  generalize mixI n 8 = v8 at m8
  generalize mixI n 9 = v9 at m9
  generalize mixI n 10 = v10 at m10
  have q8 := mod_pos' (i := v8) (j := 6) (by decide)
  obtain ⟨a, ha⟩ := Int.eq_ofNat_of_zero_le (mod_in v8 (b := 6) (by decide)).1
  have ha6 := (mod_in v8 (b := 6) (by decide)).2
  rw [ha] at q8 ha6
  have q9 := mod_pos' (i := v9) (j := 6 - (a : Int)) (by omega)
  obtain ⟨r, hr⟩ := Int.eq_ofNat_of_zero_le (mod_in v9 (b := 6 - (a : Int)) (by omega)).1
  have hr6 := (mod_in v9 (b := 6 - (a : Int)) (by omega)).2
  rw [hr] at q9 hr6
  have q10 := mod_pos' (i := v10) (j := 6) (by decide)
  obtain ⟨s, hs1, hs⟩ := pick6 (mod_in v10 (b := 6) (by decide)).1 (mod_in v10 (b := 6) (by decide)).2
  obtain ⟨c8, c9, hf⟩ := loop_eq (n := n) (a := a) (l := a + 1 + r) (rowOf_len n) h (by omega) (by omega) (by omega) hs
  obtain ⟨xs, e, h1, h2, h3⟩ := list_eq (m := mixI n 11) (rowOf_len n) (rowOf_mem n) h (a := a) (l := a + 1 + r) (by omega) (by omega) (by omega) hs
  have R := run_eq h (by rw [List.length_map, List.length_range]; omega) m8 m9 m10 q8 q9 q10 hs1 hf
  rw [← e] at R
  exact ⟨xs, R, h1, h2, h3⟩
end RN
namespace RH
open PySem RL
abbrev cs_bearing : List Str := ["LevelHandicap", "FactorHandicap", "YardHandicap", "MileHandicap"]
def t_Handicap___init___0 : RL.Env → SRes := (sSetF cs_bearing "bearing" true (plVar 0) (sVar 1))
def b_Handicap___init__ : RL.Env → SRes := t_Handicap___init___0
def f_Handicap___init__ : List D → FR := runDef 2 [0] b_Handicap___init__
def t_Handicap_word_0 : RL.Env → SRes := (sRet (sC (.str "level")))
def b_Handicap_word : RL.Env → SRes := t_Handicap_word_0
def f_Handicap_word : List D → FR := runDef 1 [] b_Handicap_word
def t_FactorHandicap_word_0 : RL.Env → SRes := (sRet (sC (.str "factor")))
def b_FactorHandicap_word : RL.Env → SRes := t_FactorHandicap_word_0
def f_FactorHandicap_word : List D → FR := runDef 1 [] b_FactorHandicap_word
def t_YardHandicap_word_0 : RL.Env → SRes := (sRet (sC (.str "yard")))
def b_YardHandicap_word : RL.Env → SRes := t_YardHandicap_word_0
def f_YardHandicap_word : List D → FR := runDef 1 [] b_YardHandicap_word
def t_MileHandicap_word_0 : RL.Env → SRes := (sRet (sC (.str "mile")))
def b_MileHandicap_word : RL.Env → SRes := t_MileHandicap_word_0
def f_MileHandicap_word : List D → FR := runDef 1 [] b_MileHandicap_word
abbrev tab_word : List (Str × (List D → FR)) := [("LevelHandicap", f_Handicap_word), ("FactorHandicap", f_FactorHandicap_word), ("YardHandicap", f_YardHandicap_word), ("MileHandicap", f_MileHandicap_word)]
def t_Handicap_plain_0 : RL.Env → SRes := (sRet (sTup (sCons (sMeth "word" tab_word 1 (sVar 0) sNil) (sCons (sCl (sFld cs_bearing "bearing" (sVarB 0))) sNil))))
def b_Handicap_plain : RL.Env → SRes := t_Handicap_plain_0
def f_Handicap_plain : List D → FR := runDef 1 [] b_Handicap_plain
def t_Handicap_text_0 : RL.Env → SRes := (sRet (s2 opAdd (s2 opAdd (sMeth "word" tab_word 1 (sVar 0) sNil) (sC (.str " "))) (sCall (on1 fStr) (sCons (sFld cs_bearing "bearing" (sVarB 0)) sNil))))
def b_Handicap_text : RL.Env → SRes := t_Handicap_text_0
def f_Handicap_text : List D → FR := runDef 1 [] b_Handicap_text
abbrev tab_word1 : List (Str × (List D → FR)) := [("LevelHandicap", f_Handicap_word)]
def t_LevelHandicap_plain_0 : RL.Env → SRes := (sRet (sTup (sCons (sMeth "word" tab_word1 1 (sVar 0) sNil) sNil)))
def b_LevelHandicap_plain : RL.Env → SRes := t_LevelHandicap_plain_0
def f_LevelHandicap_plain : List D → FR := runDef 1 [] b_LevelHandicap_plain
def t_LevelHandicap_text_0 : RL.Env → SRes := (sRet (sMeth "word" tab_word1 1 (sVar 0) sNil))
def b_LevelHandicap_text : RL.Env → SRes := t_LevelHandicap_text_0
def f_LevelHandicap_text : List D → FR := runDef 1 [] b_LevelHandicap_text
def t_handicap_of_0 : RL.Env → SRes := (sAsg (.nm 1) true (sCl (sIx (sVarB 0) (sC (.int 0)))))
def t_handicap_of_1 : RL.Env → SRes := (sRet (sMake "FactorHandicap" 2 f_Handicap___init__ (sCons (sCl (sIx (sVarB 0) (sC (.int 1)))) sNil)))
def t_handicap_of_2 : RL.Env → SRes := (sIfS (sTest (s2 opEq (sVarB 1) (sC (.str "factor")))) t_handicap_of_1 sNext)
def t_handicap_of_3 : RL.Env → SRes := (sRet (sMake "YardHandicap" 2 f_Handicap___init__ (sCons (sCl (sIx (sVarB 0) (sC (.int 1)))) sNil)))
def t_handicap_of_4 : RL.Env → SRes := (sIfS (sTest (s2 opEq (sVarB 1) (sC (.str "yard")))) t_handicap_of_3 sNext)
def t_handicap_of_5 : RL.Env → SRes := (sRet (sMake "MileHandicap" 2 f_Handicap___init__ (sCons (sCl (sIx (sVarB 0) (sC (.int 1)))) sNil)))
def t_handicap_of_6 : RL.Env → SRes := (sIfS (sTest (s2 opEq (sVarB 1) (sC (.str "mile")))) t_handicap_of_5 sNext)
def t_handicap_of_7 : RL.Env → SRes := (sRet (sMake "LevelHandicap" 2 f_Handicap___init__ (sCons (sC (.int 0)) sNil)))
def b_handicap_of : RL.Env → SRes := (sThen t_handicap_of_0
    (sThen t_handicap_of_2
    (sThen t_handicap_of_4
    (sThen t_handicap_of_6
    t_handicap_of_7))))
def f_handicap_of : List D → FR := runDef 2 [] b_handicap_of
end RH
namespace RH
open PySem RL L2
inductive Hc where
  | level | factor (b : Int) | yard (b : Int) | mile (b : Int)
abbrev wL : Str := "level"
abbrev wF : Str := "factor"
abbrev wY : Str := "yard"
abbrev wM : Str := "mile"
def Hc.word : Hc → Str
  | level => wL
  | factor _ => wF
  | yard _ => wY
  | mile _ => wM
def Hc.cls : Hc → Str
  | level => "LevelHandicap"
  | factor _ => "FactorHandicap"
  | yard _ => "YardHandicap"
  | mile _ => "MileHandicap"
def Hc.num : Hc → Int
  | level => 0
  | factor b => b
  | yard b => b
  | mile b => b
def Hc.obj (o : Bool) (h : Hc) : D := .obj o h.cls ["bearing"] [.int h.num]
def Hc.plain : Hc → D
  | level => .tup [.str wL]
  | factor b => .tup [.str wF, .int b]
  | yard b => .tup [.str wY, .int b]
  | mile b => .tup [.str wM, .int b]
theorem ne_wb : ("word" : Str) ≠ "bearing" := by decide +kernel
theorem ne_pb : ("plain" : Str) ≠ "bearing" := by decide +kernel
theorem ne_tb : ("text" : Str) ≠ "bearing" := by decide +kernel
theorem n1 : wL ≠ wF := by decide +kernel
theorem n2 : wL ≠ wY := by decide +kernel
theorem n3 : wL ≠ wM := by decide +kernel
theorem n4 : wF ≠ wY := by decide +kernel
theorem n5 : wF ≠ wM := by decide +kernel
theorem n6 : wY ≠ wM := by decide +kernel
theorem k1 : ("LevelHandicap" : Str) ≠ "FactorHandicap" := by decide +kernel
theorem k2 : ("LevelHandicap" : Str) ≠ "YardHandicap" := by decide +kernel
theorem k3 : ("LevelHandicap" : Str) ≠ "MileHandicap" := by decide +kernel
theorem k4 : ("FactorHandicap" : Str) ≠ "YardHandicap" := by decide +kernel
theorem k5 : ("FactorHandicap" : Str) ≠ "MileHandicap" := by decide +kernel
theorem k6 : ("YardHandicap" : Str) ≠ "MileHandicap" := by decide +kernel
theorem tab4 {a b c d : List D → FR} (h : Hc) : tabGo [("LevelHandicap", a), ("FactorHandicap", b), ("YardHandicap", c), ("MileHandicap", d)] h.cls = some (match h with | .level => a | .factor _ => b | .yard _ => c | .mile _ => d) := by
  cases h <;> simp [tabGo, Hc.cls, k1, k2, k3, k4, k5, k6, k1.symm, k2.symm, k3.symm, k4.symm, k5.symm, k6.symm]
theorem cls_mem (h : Hc) : h.cls ∈ cs_bearing := by cases h <;> simp [Hc.cls]
@[simp] theorem obj_clean {h : Hc} : (h.obj false).clean = true := by simp [Hc.obj, D.clean, cleanL]
@[simp] theorem obj_frz {o : Bool} {h : Hc} : (h.obj o).frz = h.obj false := by simp [Hc.obj, D.frz, frzL]
@[simp] theorem plain_clean {h : Hc} : h.plain.clean = true := by cases h <;> simp [Hc.plain]
@[simp] theorem plain_frz {h : Hc} : h.plain.frz = h.plain := by cases h <;> simp [Hc.plain]
theorem bearing {o : Bool} {h : Hc} : getF cs_bearing "bearing" (h.obj o) = some (.int h.num) := by
  have := cls_mem h
  rw [Hc.obj, getF, if_pos this]
  simp [ixOf]
theorem sz : ("FactorHandicap" : Str) ∈ cs_bearing := by simp
theorem init_eq {c : Str} {b : Int} (h : c ∈ cs_bearing) : f_Handicap___init__ [.obj true c [] [], .int b] = .ok .non [.obj true c ["bearing"] [.int b]] := by
  have h' := h
  simp only [cs_bearing, List.mem_cons, List.not_mem_nil, or_false] at h'
  rw [f_Handicap___init__, runDef_ap]
  simp [b_Handicap___init__, t_Handicap___init___0, entry, setF, h', putFN, putFD]
theorem make_eq {c : Str} {b : Int} (h : c ∈ cs_bearing) : mkRes c 2 f_Handicap___init__ [.int b] = .ok (.obj true c ["bearing"] [.int b]) := by
  simp [mkRes, init_eq h]
theorem of_eq (h : Hc) : f_handicap_of [h.plain] = .ok (h.obj true) [] := by
  have m1 := make_eq (c := "FactorHandicap") (b := h.num) (by simp)
  have m2 := make_eq (c := "YardHandicap") (b := h.num) (by simp)
  have m3 := make_eq (c := "MileHandicap") (b := h.num) (by simp)
  have m4 := make_eq (c := "LevelHandicap") (b := 0) (by simp)
  rw [f_handicap_of, runDef_ap]
  cases h <;> simp only [Hc.num] at m1 m2 m3 <;> simp [b_handicap_of, t_handicap_of_0, t_handicap_of_2, t_handicap_of_4, t_handicap_of_6, t_handicap_of_7, t_handicap_of_1, t_handicap_of_3, t_handicap_of_5, entry, Hc.plain, n1, n2, n3, n4, n5, n6, n1.symm, n2.symm, n3.symm, n4.symm, n5.symm, n6.symm, m1, m2, m3, m4, Hc.obj, Hc.cls, Hc.num]
theorem meth4 {m : Str} {a b c d : List D → FR} {n : Nat} {S : RL.Env → Res D} {Ss : RL.Env → Res (List D)} {ρ : RL.Env} {o : Bool} {h : Hc} {ds : List D} (hm : m ≠ "bearing") (hs : S ρ = .ok (h.obj o)) (ha : Ss ρ = .ok ds) (hn : ds.length + 1 = n) :
    sMeth m [("LevelHandicap", a), ("FactorHandicap", b), ("YardHandicap", c), ("MileHandicap", d)] n S Ss ρ = ((match h with | .level => a | .factor _ => b | .yard _ => c | .mile _ => d) (h.obj false :: frzL ds)).res := by
  have t4 := tab4 (a := a) (b := b) (c := c) (d := d) h
  have fz : frzL (h.obj o :: ds) = h.obj false :: frzL ds := by rw [frzL_cons, obj_frz]
  rw [sMeth_ap, hs, bind_ok]
  have e : h.obj o = .obj o h.cls ["bearing"] [.int h.num] := rfl
  rw [e]
  simp only
  rw [if_pos (by simpa using hm), t4]
  simp only
  rw [ha, bind_ok, if_pos hn, ← e, fz]
theorem word_eq {S : RL.Env → Res D} {ρ : RL.Env} {o : Bool} {h : Hc} (hs : S ρ = .ok (h.obj o)) : sMeth "word" tab_word 1 S sNil ρ = .ok (.str h.word) := by
  rw [tab_word, meth4 (n := 1) (Ss := sNil) (ds := []) ne_wb hs rfl rfl]
  cases h <;> rfl
theorem word1_eq {S : RL.Env → Res D} {ρ : RL.Env} {o : Bool} (hs : S ρ = .ok (Hc.level.obj o)) : sMeth "word" tab_word1 1 S sNil ρ = .ok (.str wL) := by
  have n0 : ("word" : Str) ∉ [("bearing" : Str)] := by simpa using ne_wb
  rw [sMeth_ap, hs, bind_ok]
  simp only [Hc.obj, tab_word1, tabGo, Hc.cls]
  rw [if_pos n0]
  simp
  rfl
theorem plainL : f_LevelHandicap_plain [Hc.level.obj false] = .ok Hc.level.plain [] := by
  have z : 1 ≤ sizeLine := by decide
  rw [f_LevelHandicap_plain, runDef_ap]
  unfold b_LevelHandicap_plain t_LevelHandicap_plain_0
  simp only [sRet_ap, sTup_ap, sCons_ap, sNil_ap]
  rw [word1_eq (o := false) (by simp [entry])]
  simp [z, Hc.plain]
theorem plainH {h : Hc} (hl : h ≠ .level) : f_Handicap_plain [h.obj false] = .ok h.plain [] := by
  have z : 2 ≤ sizeLine := by decide
  rw [f_Handicap_plain, runDef_ap]
  unfold b_Handicap_plain t_Handicap_plain_0
  simp only [sRet_ap, sTup_ap, sCons_ap, sNil_ap]
  rw [word_eq (o := false) (h := h) (by simp [entry])]
  simp [z, entry, bearing]
  cases h <;> first | rfl | exact absurd rfl hl
theorem plain_eq (h : Hc) : (match h with | .level => f_LevelHandicap_plain | .factor _ => f_Handicap_plain | .yard _ => f_Handicap_plain | .mile _ => f_Handicap_plain) [h.obj false] = .ok h.plain [] := by
  cases h
  · exact plainL
  all_goals exact plainH (by simp)
def Hc.text : Hc → Str
  | .level => wL
  | .factor b => wF ++ Str.ofString " " ++ Str.ofString (toString b)
  | .yard b => wY ++ Str.ofString " " ++ Str.ofString (toString b)
  | .mile b => wM ++ Str.ofString " " ++ Str.ofString (toString b)
theorem textH {h : Hc} (hl : h ≠ .level) (hb : sml h.num = true) : f_Handicap_text [h.obj false] = .ok (.str h.text) [] := by
  have l1 : h.word.length ≤ 10 := by cases h <;> simp only [Hc.word] <;> decide +kernel
  have l2 : (Str.ofString " ").length = 1 := by decide +kernel
  have l3 : (Str.ofString (toString h.num)).length ≤ 1901 := by
    simp only [sml, decide_eq_true_eq] at hb
    rw [PySem.ofString_length]
    exact int_text_length_le (a := h.num) (k := 1900) (by decide) hb
  have k1 : h.word.length + (Str.ofString " ").length ≤ sizeLine := by unfold sizeLine; omega
  have k2 : (h.word ++ Str.ofString " ").length + (Str.ofString (toString h.num)).length ≤ sizeLine := by rw [Str.length_append]; unfold sizeLine; omega
  rw [f_Handicap_text, runDef_ap]
  unfold b_Handicap_text t_Handicap_text_0
  simp only [sRet_ap, s2_ap]
  rw [word_eq (o := false) (h := h) (by simp [entry])]
  have e : fStr (.int h.num) = some (.str (Str.ofString (toString h.num))) := by simp [fStr, hb]
  simp only [bind_ok, sC_ap, opAdd_s k1, opt_some, sCall_ap, sCons_ap, sFld_ap, sNil_ap, sVarB_ap (d := h.obj false) (show (entry 1 [h.obj false])[0]? = _ from rfl), bearing, on1_ap, e, opAdd_s k2, stm_ok, endF_rt0]
  cases h <;> first | rfl | exact absurd rfl hl
theorem textL : f_LevelHandicap_text [Hc.level.obj false] = .ok (.str Hc.level.text) [] := by
  rw [f_LevelHandicap_text, runDef_ap]
  unfold b_LevelHandicap_text t_LevelHandicap_text_0
  rw [sRet_ap, word1_eq (o := false) (by simp [entry])]
  rfl
end RH
namespace RM
open PySem RL RN
def t__law_cell_at_0 : RL.Env → SRes := (sRet (sCl (sIx (sVarB 0) (sVarB 1))))
def t__law_cell_at_1 : RL.Env → SRes := (sIfS (sTest (s2 opLt (sVarB 1) (sCall (on1 fLenX) (sCons (sVarB 0) sNil)))) t__law_cell_at_0 sNext)
def b__law_cell_at : RL.Env → SRes := (sThen t__law_cell_at_1
    (sRet (sC (.int 0))))
def f__law_cell_at : List D → FR := runDef 2 [] b__law_cell_at
def t__law_handicap_0 : RL.Env → SRes := (sAsg (.nm 1) true (sIx (sLst (sCons (sC (.int 1000)) (sCons (s2 opAdd (sC (.int 1)) (s2 opMod (sCallF 2 f__law_mixed (sCons (sVar 0) (sCons (sC (.int 31)) sNil))) (sC (.int 5000)))) (sCons (s2 opAdd (sC (.int 900)) (s2 opMod (sCallF 2 f__law_mixed (sCons (sVar 0) (sCons (sC (.int 31)) sNil))) (sC (.int 200)))) sNil)))) (s2 opMod (sCallF 2 f__law_mixed (sCons (sVar 0) (sCons (sC (.int 32)) sNil))) (sC (.int 3)))))
def t__law_handicap_1 : RL.Env → SRes := (sAsg (.nm 2) true (sIx (sLst (sCons (sC (.str "level")) (sCons (sC (.str "factor")) (sCons (sC (.str "yard")) (sCons (sC (.str "mile")) sNil))))) (s2 opMod (sCallF 2 f__law_mixed (sCons (sVar 0) (sCons (sC (.int 30)) sNil))) (sC (.int 4)))))
def t__law_handicap_2 : RL.Env → SRes := (sRet (sIf (sTest (s2 opEq (sVarB 2) (sC (.str "level")))) (sTup (sCons (sVar 2) sNil)) (sTup (sCons (sVar 2) (sCons (sVar 1) sNil)))))
def b__law_handicap : RL.Env → SRes := (sThen t__law_handicap_0
    (sThen t__law_handicap_1
    t__law_handicap_2))
def f__law_handicap : List D → FR := runDef 3 [] b__law_handicap
def t__law_meeting_0 : RL.Env → SRes := (sAsg (.nm 3) true (sCallF 2 f__law_names (sCons (sCallF 2 f__law_mixed (sCons (sCallF 2 f__law_cell_at (sCons (sVar 0) (sCons (sC (.int 0)) sNil))) (sCons (sC (.int 1)) sNil))) (sCons (sC (.int 6)) sNil))))
def t__law_meeting_1 : RL.Env → SRes := (sAsg (.nm 4) false (sLst sNil))
def t__law_meeting_2 : RL.Env → SRes := (sMut mAppend (plVar 4) (sCons (sTup (sCons (sCl (sIx (sVarB 3) (sVarB 5))) (sCons (sCallF 1 f__law_handicap (sCons (sCallF 2 f__law_mixed (sCons (sCallF 2 f__law_cell_at (sCons (sVar 0) (sCons (sC (.int 0)) sNil))) (sCons (s2 opAdd (sC (.int 20)) (sVarB 5)) sNil))) sNil)) sNil))) sNil))
def t__law_meeting_3 : RL.Env → SRes := (sFor (sI rng1 (sCons (s2 opAdd (sC (.int 1)) (s2 opMod (sCallF 2 f__law_cell_at (sCons (sVar 0) (sCons (sC (.int 0)) sNil))) (sC (.int 6)))) sNil)) (.nm 5)
    t__law_meeting_2)
def t__law_meeting_4 : RL.Env → SRes := (sAsg (.nm 6) true (sCallF 2 f__law_names (sCons (sCallF 2 f__law_mixed (sCons (sCallF 2 f__law_cell_at (sCons (sVar 0) (sCons (sC (.int 1)) sNil))) (sCons (sC (.int 2)) sNil))) (sCons (sC (.int 24)) sNil))))
def t__law_meeting_5 : RL.Env → SRes := (sAsg (.nm 7) true (sSl (sCallF 2 f__law_names (sCons (sCallF 2 f__law_mixed (sCons (sCallF 2 f__law_cell_at (sCons (sVar 0) (sCons (sC (.int 2)) sNil))) (sCons (sC (.int 3)) sNil))) (sCons (sC (.int 3)) sNil))) sPn (sPs (s2 opAdd (sC (.int 1)) (s2 opMod (sCallF 2 f__law_cell_at (sCons (sVar 0) (sCons (sC (.int 2)) sNil))) (sC (.int 3)))))))
def t__law_meeting_6 : RL.Env → SRes := (sAsg (.nm 8) false (sLst sNil))
def t__law_meeting_7 : RL.Env → SRes := (sAsg (.nm 14) true (sCallF 2 f__law_mixed (sCons (sCallF 2 f__law_cell_at (sCons (sVar 0) (sCons (sC (.int 1)) sNil))) (sCons (s2 opAdd (sC (.int 40)) (sVarB 5)) sNil))))
def t__law_meeting_8 : RL.Env → SRes := (sMut mAppend (plVar 8) (sCons (sTup (sCons (sCl (sIx (sVarB 6) (sVarB 5))) (sCons (sCl (sIx (sIx (sVarB 4) (s2 opMod (sVarB 14) (sCall (on1 fLenX) (sCons (sVarB 4) sNil)))) (sC (.int 0)))) (sCons (sCl (sIx (sVarB 7) (s2 opMod (s2 opFdiv (sVarB 14) (sC (.int 6))) (sCall (on1 fLenX) (sCons (sVarB 7) sNil))))) sNil)))) sNil))
def k__law_meeting_9 : RL.Env → SRes := (sThen t__law_meeting_7
    t__law_meeting_8)
def t__law_meeting_9 : RL.Env → SRes := (sFor (sI rng1 (sCons (s2 opAdd (sC (.int 1)) (s2 opMod (sCallF 2 f__law_mixed (sCons (sCallF 2 f__law_cell_at (sCons (sVar 0) (sCons (sC (.int 1)) sNil))) (sCons (sC (.int 4)) sNil))) (sVarB 1))) sNil)) (.nm 5)
    k__law_meeting_9)
def t__law_meeting_10 : RL.Env → SRes := (sAsg (.nm 9) true (s2 opMod (s2 opFdiv (sCallF 2 f__law_cell_at (sCons (sVar 0) (sCons (sC (.int 2)) sNil))) (sC (.int 3))) (sC (.int 4))))
def l__law_meeting_11 : RL.Env → Res D := (sLc (sI rng1 (sCons (sVarB 9) sNil)) (.nm 5) [5] sYes (s2 opAdd (sC (.int 1)) (s2 opMod (sCallF 2 f__law_mixed (sCons (sCallF 2 f__law_cell_at (sCons (sVar 0) (sCons (sC (.int 2)) sNil))) (sCons (s2 opAdd (sC (.int 70)) (sVarB 5)) sNil))) (sIx (sLst (sCons (sC (.int 5)) (sCons (sC (.int 5)) (sCons (sC (.int 12)) sNil)))) (s2 opMod (sVarB 5) (sC (.int 3)))))))
def t__law_meeting_12 : RL.Env → SRes := (sAsg (.nm 10) true l__law_meeting_11)
def l__law_meeting_13 : RL.Env → Res D := (sLc (sSeq (sVarB 8)) (.nm 16) [16] sYes (sCl (sIx (sVarB 16) (sC (.int 2)))))
def t__law_meeting_14 : RL.Env → SRes := (sAsg (.nm 11) true (s2 opAdd l__law_meeting_13 (sLst (sCons (sC (.str "all")) sNil))))
def t__law_meeting_15 : RL.Env → SRes := (sAsg (.nm 12) false (sLst sNil))
def t__law_meeting_16 : RL.Env → SRes := (sAsg (.nm 13) true (sCallF 2 f__law_names (sCons (sCallF 2 f__law_mixed (sCons (sCallF 2 f__law_cell_at (sCons (sVar 0) (sCons (sC (.int 3)) sNil))) (sCons (sC (.int 5)) sNil))) (sCons (sC (.int 12)) sNil))))
def t__law_meeting_17 : RL.Env → SRes := (sAsg (.nm 14) true (sCallF 2 f__law_mixed (sCons (sCallF 2 f__law_cell_at (sCons (sVar 0) (sCons (sC (.int 3)) sNil))) (sCons (s2 opAdd (sC (.int 80)) (sVarB 5)) sNil))))
def t__law_meeting_18 : RL.Env → SRes := (sAsg (.nm 15) true (sIx (sLst (sCons (sC (.int 0)) (sCons (s2 opMod (sVarB 14) (sC (.int 40000))) (sCons (s2 opMod (sVarB 14) (sC (.int 359000))) sNil)))) (s2 opMod (sVarB 14) (sC (.int 3)))))
def t__law_meeting_19 : RL.Env → SRes := (sMut mAppend (plVar 12) (sCons (sTup (sCons (sCl (sIx (sVarB 13) (sVarB 5))) (sCons (sCl (sIx (sVarB 11) (s2 opMod (s2 opFdiv (sVarB 14) (sC (.int 3))) (sCall (on1 fLenX) (sCons (sVarB 11) sNil))))) (sCons (sVar 15) (sCons (s2 opMod (s2 opFdiv (sVarB 14) (sC (.int 100))) (sIx (sLst (sCons (sC (.int 1)) (sCons (sC (.int 300)) (sCons (sC (.int 10000)) sNil)))) (s2 opMod (sVarB 14) (sC (.int 3))))) sNil))))) sNil))
def k__law_meeting_21 : RL.Env → SRes := (sThen t__law_meeting_17
    (sThen t__law_meeting_18
    t__law_meeting_19))
def t__law_meeting_20 : RL.Env → SRes := (sFor (sI rng1 (sCons (s2 opMod (sCallF 2 f__law_mixed (sCons (sCallF 2 f__law_cell_at (sCons (sVar 0) (sCons (sC (.int 3)) sNil))) (sCons (sC (.int 6)) sNil))) (s2 opAdd (sVarB 2) (sC (.int 1)))) sNil)) (.nm 5)
    k__law_meeting_21)
def t__law_meeting_21 : RL.Env → SRes := (sRet (sTup (sCons (sCall (on1 fTux) (sCons (sVarB 4) sNil)) (sCons (sCall (on1 fTuple) (sCons (sVarB 8) sNil)) (sCons (sCall (on1 fTuple) (sCons (s1 fSortSet (sVarB 10)) sNil)) (sCons (sCall (on1 fTuple) (sCons (sVarB 12) sNil)) sNil))))))
def b__law_meeting : RL.Env → SRes := (sThen t__law_meeting_0
    (sThen t__law_meeting_1
    (sThen t__law_meeting_3
    (sThen t__law_meeting_4
    (sThen t__law_meeting_5
    (sThen t__law_meeting_6
    (sThen t__law_meeting_9
    (sThen t__law_meeting_10
    (sThen t__law_meeting_12
    (sThen t__law_meeting_14
    (sThen t__law_meeting_15
    (sThen t__law_meeting_16
    (sThen t__law_meeting_20
    t__law_meeting_21)))))))))))))
def f__law_meeting : List D → FR := runDef 17 [] b__law_meeting
end RM
namespace RM
open PySem RL L2
def cellI (ns : List Int) (k : Nat) : Int := ns.getD k 0
theorem cell_eq {ns : List Int} {k : Nat} : f__law_cell_at [.scr ns, .int (k : Int)] = .ok (.int (cellI ns k)) [] := by
  rw [f__law_cell_at, runDef_ap]
  by_cases h : k < ns.length
  · have e : opIx (.scr ns) (.int (k : Int)) = some (.int (cellI ns k)) := by
      show (atI ns (k : Int)).map D.int = _
      rw [RL.atI_nat, List.getElem?_eq_getElem h]
      simp [cellI, List.getD, List.getElem?_eq_getElem h]
    simp [b__law_cell_at, t__law_cell_at_1, t__law_cell_at_0, entry, h, e]
  · have e : cellI ns k = 0 := by simp [cellI, List.getD, List.getElem?_eq_none (Nat.le_of_not_lt h)]
    simp [b__law_cell_at, t__law_cell_at_1, t__law_cell_at_0, entry, h, e]
theorem cell_0 {ns : List Int} : f__law_cell_at [.scr ns, .int 0] = .ok (.int (cellI ns 0)) [] := cell_eq (k := 0)
theorem cell_1 {ns : List Int} : f__law_cell_at [.scr ns, .int 1] = .ok (.int (cellI ns 1)) [] := cell_eq (k := 1)
theorem cell_2 {ns : List Int} : f__law_cell_at [.scr ns, .int 2] = .ok (.int (cellI ns 2)) [] := cell_eq (k := 2)
theorem cell_3 {ns : List Int} : f__law_cell_at [.scr ns, .int 3] = .ok (.int (cellI ns 3)) [] := cell_eq (k := 3)
def HcOk (h : RH.Hc) : Prop := h = .level ∨ (1 ≤ h.num ∧ h.num ≤ 5000)
theorem hand_eq (n : Int) : ∃ h : RH.Hc, f__law_handicap [.int n] = .ok h.plain [] ∧ HcOk h := by
  have m30 := RN.mix_eq (n := n) (k := 30) (by decide)
  have m31 := RN.mix_eq (n := n) (k := 31) (by decide)
  have m32 := RN.mix_eq (n := n) (k := 32) (by decide)
  generalize RN.mixI n 30 = v30 at m30
  generalize RN.mixI n 31 = v31 at m31
  generalize RN.mixI n 32 = v32 at m32
  have q4 := mod_pos' (i := v30) (j := 4) (by decide)
  have q3 := mod_pos' (i := v32) (j := 3) (by decide)
  have q5 := mod_pos' (i := v31) (j := 5000) (by decide)
  have q2 := mod_pos' (i := v31) (j := 200) (by decide)
  have b4 := RN.mod_in v30 (b := 4) (by decide)
  have b3 := RN.mod_in v32 (b := 3) (by decide)
  have b5 := RN.mod_in v31 (b := 5000) (by decide)
  have b2 := RN.mod_in v31 (b := 200) (by decide)
  generalize v30 % 4 = w at *
  generalize v32 % 3 = i at *
  generalize v31 % 5000 = x at *
  generalize v31 % 200 = y at *
  obtain ⟨c, c1, c2⟩ := ix_mem (xs := [D.int 1000, .int (1 + x), .int (900 + y)]) b3.1 b3.2
  obtain ⟨z, rfl, z1, z2⟩ : ∃ z : Int, c = .int z ∧ 1 ≤ z ∧ z ≤ 5000 := by
    simp only [List.mem_cons, List.not_mem_nil, or_false] at c2
    rcases c2 with rfl | rfl | rfl
    · exact ⟨_, rfl, by omega, by omega⟩
    · exact ⟨_, rfl, by omega, by omega⟩
    · exact ⟨_, rfl, by omega, by omega⟩
  obtain ⟨d, d1, d2⟩ := ix_mem (xs := [D.str RH.wL, .str RH.wF, .str RH.wY, .str RH.wM]) b4.1 b4.2
  have s3 : 3 ≤ sizeLine := by decide
  have s2 : 2 ≤ sizeLine := by decide
  have s1 : 1 ≤ sizeLine := by decide
  have s4 : 4 ≤ sizeLine := by decide
  have e0 : t__law_handicap_0 [some (.int n), none, none] = .nx [some (.int n), some (.int z), none] := by
    simp [t__law_handicap_0, m31, m32, q3, q5, q2, c1, s3]
  have e1 : t__law_handicap_1 [some (.int n), some (.int z), none] = .nx [some (.int n), some (.int z), some d.frz] := by
    simp [t__law_handicap_1, m30, q4, d1, s4]
  rw [f__law_handicap, runDef_ap]
  unfold b__law_handicap
  rw [sThen_ap, show entry 3 [D.int n] = [some (.int n), none, none] from rfl, e0, andThen_nx, sThen_ap, e1, andThen_nx]
  simp only [List.mem_cons, List.not_mem_nil, or_false] at d2
  rcases d2 with rfl | rfl | rfl | rfl
  · exact ⟨.level, by simp [t__law_handicap_2, RH.Hc.plain, D.frz, s1, s2], .inl rfl⟩
  · exact ⟨.factor z, by simp [t__law_handicap_2, RH.Hc.plain, D.frz, s1, s2, RH.n1.symm], .inr ⟨z1, z2⟩⟩
  · exact ⟨.yard z, by simp [t__law_handicap_2, RH.Hc.plain, D.frz, s1, s2, RH.n2.symm], .inr ⟨z1, z2⟩⟩
  · exact ⟨.mile z, by simp [t__law_handicap_2, RH.Hc.plain, D.frz, s1, s2, RH.n3.symm], .inr ⟨z1, z2⟩⟩
end RM
namespace RM
open PySem RL L2
abbrev ClT := Str × RH.Hc
def clD (c : ClT) : D := .tup [.str c.1, c.2.plain]
theorem clD_clean (c : ClT) : (clD c).clean = true := by simp [clD, D.clean, cleanL]
theorem clD_frz (c : ClT) : (clD c).frz = clD c := by simp [clD, D.frz, frzL]
theorem frzL_of {α : Type} {f : α → D} (h : ∀ a, (f a).frz = f a) : ∀ xs : List α, frzL (xs.map f) = xs.map f
  | [] => by simp [frzL]
  | x :: xs => by simp [frzL, h x, frzL_of h xs]
theorem cleanL_of {α : Type} {f : α → D} (h : ∀ a, (f a).clean = true) (xs : List α) : cleanL (xs.map f) = true := cleanL_all.mpr fun d hd => by
  obtain ⟨i, _, rfl⟩ := List.mem_map.mp hd
  exact h i
theorem ix_str {o : Bool} {xs : List Str} {k : Nat} (h : k < xs.length) : opIx (.lst o (xs.map .str)) (.int (k : Int)) = some (.str (xs.getD k "")) := by
  show atI (xs.map D.str) (k : Int) = _
  rw [RL.atI_nat, List.getElem?_map, List.getElem?_eq_getElem h]
  simp [List.getD, List.getElem?_eq_getElem h]
abbrev E1 (ns : List Int) (nb nr : Int) (nm : List Str) (cs : List ClT) (k : Option D) : RL.Env :=
  [some (.scr ns), some (.int nb), some (.int nr), some (.lst false (nm.map .str)), some (.lst true (cs.map clD)), k, none, none, none, none, none, none, none, none, none, none, none]
theorem cl_step {ns : List Int} {nb nr : Int} {nm : List Str} {cs : List ClT} {k : Nat} (hk : k < nm.length) (hc : cs.length ≤ 100) (hk2 : k ≤ 1000) :
    ∃ h : RH.Hc, HcOk h ∧ t__law_meeting_2 (E1 ns nb nr nm cs (some (.int (k : Int)))) = .nx (E1 ns nb nr nm (cs ++ [(nm.getD k "", h)]) (some (.int (k : Int)))) := by
  have m := RN.mix_eq (n := cellI ns 0) (k := 20 + (k : Int)) (by omega)
  obtain ⟨h, h1, h2⟩ := hand_eq (RN.mixI (cellI ns 0) (20 + (k : Int)))
  have s2 : 2 ≤ sizeLine := by decide
  have fl : cs.length < sizeLine := by unfold sizeLine; omega
  have ix := ix_str (o := false) hk
  refine ⟨h, h2, ?_⟩
  simp [t__law_meeting_2, cell_0, m, h1, s2, fl, ix, clD]
theorem cl_loop {ns : List Int} {nb nr : Int} {nm : List Str} {n : Nat} (hn : n ≤ nm.length) (hn2 : n ≤ 100) :
    ∃ (cs : List ClT) (k : Option D), forRun (.nm 5) t__law_meeting_2 (ups 0 n) (E1 ns nb nr nm [] none) = .nx (E1 ns nb nr nm cs k) ∧ cs.map (·.1) = nm.take n ∧ ∀ c ∈ cs, HcOk c.2 := by
  obtain ⟨ρ', hf, cs, k, rfl, h1, h2⟩ := for_inv (t := .nm 5) (S := t__law_meeting_2) (fun i ρ => ∃ cs k, ρ = E1 ns nb nr nm cs k ∧ cs.map (·.1) = nm.take i ∧ ∀ c ∈ cs, HcOk c.2)
    (ds := ups 0 n) (k := 0) (ρ := E1 ns nb nr nm [] none) ⟨[], none, rfl, by simp, by simp⟩ (by
      rintro i d ρ hd ⟨cs, k, rfl, h1, h2⟩
      have hi : i < n := by
        have := (List.getElem?_eq_some_iff.mp hd).1
        rwa [ups_len] at this
      have ed : d = .int (i : Nat) := by
        simp [ups, hi] at hd
        exact hd.symm
      subst ed
      rw [Nat.zero_add] at h1
      have cl : cs.length = i := by
        have := congrArg List.length h1
        rw [List.length_map, List.length_take] at this
        omega
      obtain ⟨h, g1, g2⟩ := cl_step (ns := ns) (nb := nb) (nr := nr) (nm := nm) (cs := cs) (k := i) (by omega) (by omega) (by omega)
      refine ⟨_, _, by simp [Tg.set], g2, _, _, rfl, ?_, ?_⟩
      · rw [Nat.zero_add, List.map_append, h1, List.take_succ]
        rw [List.getElem?_eq_getElem (by omega)]
        simp [List.getD, List.getElem?_eq_getElem (show i < nm.length by omega)]
      · intro c hc
        rcases List.mem_append.mp hc with hc | hc
        · exact h2 c hc
        · rw [List.mem_singleton.mp hc]; exact g1)
  rw [ups_len, Nat.zero_add] at h1
  exact ⟨cs, k, hf, h1, h2⟩
end RM
namespace RM
open PySem RL L2
abbrev BtT := Str × Str × Str
def boatD (b : BtT) : D := .tup [.str b.1, .str b.2.1, .str b.2.2]
theorem boatD_clean (c : BtT) : (boatD c).clean = true := by simp [boatD, D.clean, cleanL]
theorem boatD_frz (c : BtT) : (boatD c).frz = boatD c := by simp [boatD, D.frz, frzL]
theorem ix_one {α : Type} {f : α → D} {o : Bool} {xs : List α} {i : Int} (h : 0 < xs.length) : ∃ a ∈ xs, opIx (.lst o (xs.map f)) (.int (i % xs.length)) = some (f a) := by
  have b := RN.mod_in i (b := (xs.length : Int)) (by omega)
  obtain ⟨v, v1, v2⟩ := ix_mem (xs := xs.map f) b.1 (by rw [List.length_map]; exact b.2)
  obtain ⟨a, ha, rfl⟩ := List.mem_map.mp v2
  exact ⟨a, ha, v1⟩
abbrev E2 (ns : List Int) (nb nr : Int) (nm : List Str) (cs : List ClT) (k : Option D) (sl fl : List Str) (bs : List BtT) (m : Option D) : RL.Env :=
  [some (.scr ns), some (.int nb), some (.int nr), some (.lst false (nm.map .str)), some (.lst true (cs.map clD)), k, some (.lst false (sl.map .str)), some (.lst false (fl.map .str)), some (.lst true (bs.map boatD)), none, none, none, none, none, m, none, none]
theorem bt_step {ns : List Int} {nb nr : Int} {nm : List Str} {cs : List ClT} {sl fl : List Str} {bs : List BtT} {m0 : Option D} {k : Nat} (hk : k < sl.length) (hb : bs.length ≤ 100) (hk2 : k ≤ 1000) (hc : 0 < cs.length) (hf : 0 < fl.length) :
    ∃ (c : ClT) (f : Str) (m : Option D), c ∈ cs ∧ f ∈ fl ∧ k__law_meeting_9 (E2 ns nb nr nm cs (some (.int (k : Int))) sl fl bs m0) = .nx (E2 ns nb nr nm cs (some (.int (k : Int))) sl fl (bs ++ [(sl.getD k "", c.1, f)]) m) := by
  have m := RN.mix_eq (n := cellI ns 1) (k := 40 + (k : Int)) (by omega)
  generalize RN.mixI (cellI ns 1) (40 + (k : Int)) = v at m
  have z3 : 3 ≤ sizeLine := by decide
  have lt : bs.length < sizeLine := by unfold sizeLine; omega
  have ix := ix_str (o := false) hk
  have q1 := mod_pos' (i := v) (j := (cs.length : Int)) (by omega)
  have q2 := mod_pos' (i := v / 6) (j := (fl.length : Int)) (by omega)
  have q3 := fdiv_pos' (i := v) (j := 6) (by decide) (by decide)
  obtain ⟨c, c1, c2⟩ := ix_one (f := clD) (o := true) (xs := cs) (i := v) hc
  obtain ⟨f, f1, f2⟩ := ix_one (f := D.str) (o := false) (xs := fl) (i := v / 6) hf
  have c3 : opIx (clD c) (.int 0) = some (.str c.1) := rfl
  generalize hi : v % (cs.length : Int) = i at *
  generalize v / 6 = v6 at *
  generalize hj : v6 % (fl.length : Int) = j at *
  refine ⟨c, f, some (.int v), c1, f1, ?_⟩
  have e7 : t__law_meeting_7 (E2 ns nb nr nm cs (some (.int (k : Int))) sl fl bs m0) = .nx (E2 ns nb nr nm cs (some (.int (k : Int))) sl fl bs (some (.int v))) := by
    simp [t__law_meeting_7, cell_1, m]
  have e8 : t__law_meeting_8 (E2 ns nb nr nm cs (some (.int (k : Int))) sl fl bs (some (.int v))) = .nx (E2 ns nb nr nm cs (some (.int (k : Int))) sl fl (bs ++ [(sl.getD k "", c.1, f)]) (some (.int v))) := by
    simp [t__law_meeting_8, ix, q1, q2, q3, c2, c3, f2, z3, lt, boatD]
  rw [k__law_meeting_9, sThen_ap, e7, andThen_nx, e8]
theorem bt_loop {ns : List Int} {nb nr : Int} {nm : List Str} {cs : List ClT} {sl fl : List Str} {k0 : Option D} {n : Nat} (hn : n ≤ sl.length) (hn2 : n ≤ 100) (hc : 0 < cs.length) (hf : 0 < fl.length) :
    ∃ (bs : List BtT) (k m : Option D), forRun (.nm 5) k__law_meeting_9 (ups 0 n) (E2 ns nb nr nm cs k0 sl fl [] none) = .nx (E2 ns nb nr nm cs k sl fl bs m) ∧ bs.map (·.1) = sl.take n ∧ ∀ b ∈ bs, b.2.1 ∈ cs.map (·.1) ∧ b.2.2 ∈ fl := by
  obtain ⟨ρ', hf, bs, k, m, rfl, h1, h2⟩ := for_inv (t := .nm 5) (S := k__law_meeting_9) (fun i ρ => ∃ bs k m, ρ = E2 ns nb nr nm cs k sl fl bs m ∧ bs.map (·.1) = sl.take i ∧ ∀ b ∈ bs, b.2.1 ∈ cs.map (·.1) ∧ b.2.2 ∈ fl)
    (ds := ups 0 n) (k := 0) (ρ := E2 ns nb nr nm cs k0 sl fl [] none) ⟨[], k0, none, rfl, by simp, by simp⟩ (by
      rintro i d ρ hd ⟨bs, k, m, rfl, h1, h2⟩
      have hi : i < n := by
        have := (List.getElem?_eq_some_iff.mp hd).1
        rwa [ups_len] at this
      have ed : d = .int (i : Nat) := by
        simp [ups, hi] at hd
        exact hd.symm
      subst ed
      rw [Nat.zero_add] at h1
      have cl : bs.length = i := by
        have := congrArg List.length h1
        rw [List.length_map, List.length_take] at this
        omega
      obtain ⟨c, f, m', g1, g2, g3⟩ := bt_step (ns := ns) (nb := nb) (nr := nr) (nm := nm) (cs := cs) (sl := sl) (fl := fl) (bs := bs) (m0 := m) (k := i) (by omega) (by omega) (by omega) hc hf
      refine ⟨_, _, by simp [Tg.set], g3, _, _, _, rfl, ?_, ?_⟩
      · rw [Nat.zero_add, List.map_append, h1, List.take_succ]
        rw [List.getElem?_eq_getElem (by omega)]
        simp [List.getD, List.getElem?_eq_getElem (show i < sl.length by omega)]
      · intro b hb
        rcases List.mem_append.mp hb with hb | hb
        · exact h2 b hb
        · rw [List.mem_singleton.mp hb]; exact ⟨List.mem_map.mpr ⟨c, g1, rfl⟩, g2⟩)
  rw [ups_len, Nat.zero_add] at h1
  exact ⟨bs, k, m, hf, h1, h2⟩
end RM
namespace RM
open PySem RL L2
def dropAt (c : Int) (k : Nat) : Int := 1 + RN.mixI c (70 + (k : Int)) % (if k = 2 then 12 else 5)
theorem dropAt_in (c : Int) (k : Nat) : 1 ≤ dropAt c k ∧ dropAt c k ≤ 12 := by
  unfold dropAt
  have h12 := RN.mod_in (RN.mixI c (70 + (k : Int))) (b := 12) (by decide)
  have h5 := RN.mod_in (RN.mixI c (70 + (k : Int))) (b := 5) (by decide)
  split <;> omega
abbrev E3 (ns : List Int) (nb nr : Int) (nm : List Str) (cs : List ClT) (k : Option D) (sl fl : List Str) (bs : List BtT) (mn dr tl rs cl : Option D) (m op bt : Option D) : RL.Env :=
  [some (.scr ns), some (.int nb), some (.int nr), some (.lst false (nm.map .str)), some (.lst true (cs.map clD)), k, some (.lst false (sl.map .str)), some (.lst false (fl.map .str)), some (.lst true (bs.map boatD)), mn, dr, tl, rs, cl, m, op, bt]
theorem ix_drop {k : Nat} (h : k < 3) : ∃ j : Int, opMod (.int (k : Int)) (.int 3) = some (.int j) ∧ opIx (.lst true [.int 5, .int 5, .int 12]) (.int j) = some (.int (if k = 2 then 12 else 5)) := by
  have k3 : k = 0 ∨ k = 1 ∨ k = 2 := by omega
  rcases k3 with rfl | rfl | rfl
  · exact ⟨0, mod_pos' (i := 0) (j := 3) (by decide), rfl⟩
  · exact ⟨1, mod_pos' (i := 1) (j := 3) (by decide), rfl⟩
  · exact ⟨2, mod_pos' (i := 2) (j := 3) (by decide), rfl⟩
theorem drop_one {ns : List Int} {kk v w j u : Int} {a b c d e f g h i l m n o p q r t : Option D} (mm : RN.f__law_mixed [.int (cellI ns 2), .int (70 + kk)] = .ok (.int v) []) (j1 : opMod (.int kk) (.int 3) = some (.int j))
    (j2 : opIx (.lst true [.int 5, .int 5, .int 12]) (.int j) = some (.int w)) (qq : opMod (.int v) (.int w) = some (.int u)) :
    lcOne (.nm 5) [5] sYes (s2 opAdd (sC (.int 1)) (s2 opMod (sCallF 2 RN.f__law_mixed (sCons (sCallF 2 f__law_cell_at (sCons (sVar 0) (sCons (sC (.int 2)) sNil))) (sCons (s2 opAdd (sC (.int 70)) (sVarB 5)) sNil))) (sIx (sLst (sCons (sC (.int 5)) (sCons (sC (.int 5)) (sCons (sC (.int 12)) sNil)))) (s2 opMod (sVarB 5) (sC (.int 3))))))
      [some (.scr ns), a, b, c, d, e, f, g, h, i, l, m, n, o, p, q, r] (.int kk) = .ok (some (.int (1 + u))) := by
  have z3 : 3 ≤ sizeLine := by decide
  simp [lcOne, wipeE, Tg.set, cell_2, mm, j1, j2, qq, z3]
theorem drop_rg {n : Nat} (h : n ≤ 3) : opt (rng1 [D.int (n : Int)]) = .ok (ups 0 n) := by rw [rng1_nat (by omega)]; rfl
theorem drop_it {ns : List Int} {nb nr : Int} {nm : List Str} {cs : List ClT} {sl fl : List Str} {bs : List BtT} {k m : Option D} {n : Nat} (hn : n ≤ 3) :
    sI rng1 (sCons (sVarB 9) sNil) (E3 ns nb nr nm cs k sl fl bs (some (.int (n : Int))) none none none none m none none) = .ok (ups 0 n) := by
  have e : (sCons (sVarB 9) sNil) (E3 ns nb nr nm cs k sl fl bs (some (.int (n : Int))) none none none none m none none) = .ok [D.int (n : Int)] := by simp
  rw [sI_ap, e, bind_ok, drop_rg hn]
theorem drop_md (c : Int) {k : Nat} (hk : k < 3) : ∃ v w u : Int, RN.f__law_mixed [.int c, .int (70 + (k : Int))] = .ok (.int v) [] ∧ (w = if k = 2 then 12 else 5) ∧ opMod (.int v) (.int w) = some (.int u) ∧ dropAt c k = 1 + u := by
  refine ⟨_, _, _, RN.mix_eq (n := c) (k := 70 + (k : Int)) (by omega), rfl, mod_pos' (by split <;> decide), ?_⟩
  unfold dropAt
  rfl
theorem drop_lc {ns : List Int} {nb nr : Int} {nm : List Str} {cs : List ClT} {sl fl : List Str} {bs : List BtT} {k m : Option D} {n : Nat} (hn : n ≤ 3) :
    l__law_meeting_11 (E3 ns nb nr nm cs k sl fl bs (some (.int (n : Int))) none none none none m none none) = .ok (.lst true ((List.range n).map fun k => D.int (dropAt (cellI ns 2) k))) := by
  refine lc_up (by omega) (drop_it hn) fun k hk => ?_
  obtain ⟨j, j1, j2⟩ := ix_drop (k := k) (by omega)
  obtain ⟨v, w, u, h1, h2, h3, h4⟩ := drop_md (cellI ns 2) (k := k) (by omega)
  rw [← h2] at j2
  rw [h4]
  exact drop_one (t := none) h1 j1 j2 h3
theorem told_lc {ns : List Int} {nb nr : Int} {nm : List Str} {cs : List ClT} {sl fl : List Str} {bs : List BtT} {k mn dr m : Option D} (hb : bs.length ≤ 100) :
    l__law_meeting_13 (E3 ns nb nr nm cs k sl fl bs mn dr none none none m none none) = .ok (.lst true ((bs.map fun b => b.2.2).map .str)) := by
  refine sLc_ok (ds := bs.map boatD) (by simp [cleanL_of boatD_clean]) (by rw [List.length_map]; unfold sizeLine; omega) ?_
  rw [List.map_map]
  refine lcRun_of fun b hb => ?_
  have e : opIx (boatD b) (.int 2) = some (.str b.2.2) := rfl
  simp [lcOne, wipeE, Tg.set, e]
end RM
namespace RM
open PySem RL L2
abbrev RcT := Str × Str × Int × Int
def raceD (r : RcT) : D := .tup [.str r.1, .str r.2.1, .int r.2.2.1, .int r.2.2.2]
theorem raceD_clean (c : RcT) : (raceD c).clean = true := by simp [raceD, D.clean, cleanL]
theorem raceD_frz (c : RcT) : (raceD c).frz = raceD c := by simp [raceD, D.frz, frzL]
abbrev E4 (ns : List Int) (nb nr : Int) (nm : List Str) (cs : List ClT) (k : Option D) (sl fl : List Str) (bs : List BtT) (mn : Int) (dr : List Int) (tl : List Str) (rs : List RcT) (cl : List Str) (m op : Option D) : RL.Env :=
  [some (.scr ns), some (.int nb), some (.int nr), some (.lst false (nm.map .str)), some (.lst true (cs.map clD)), k, some (.lst false (sl.map .str)), some (.lst false (fl.map .str)), some (.lst true (bs.map boatD)), some (.int mn), some (.lst false (dr.map .int)), some (.lst false (tl.map .str)), some (.lst true (rs.map raceD)), some (.lst false (cl.map .str)), m, op, none]
theorem rc_step {ns : List Int} {nb nr : Int} {nm : List Str} {cs : List ClT} {sl fl : List Str} {bs : List BtT} {mn : Int} {dr : List Int} {tl : List Str} {rs : List RcT} {cl : List Str} {m op : Option D} {k : Nat} (hk : k < cl.length) (hr : rs.length ≤ 100) (hk2 : k ≤ 1000) (ht : 0 < tl.length) :
    ∃ (f : Str) (st di : Int) (m' op' : Option D), f ∈ tl ∧ 0 ≤ st ∧ st ≤ 359000 ∧ 0 ≤ di ∧ di ≤ 9999 ∧
      k__law_meeting_21 (E4 ns nb nr nm cs (some (.int (k : Int))) sl fl bs mn dr tl rs cl m op) = .nx (E4 ns nb nr nm cs (some (.int (k : Int))) sl fl bs mn dr tl (rs ++ [(cl.getD k "", f, st, di)]) cl m' op') := by
  have mm := RN.mix_eq (n := cellI ns 3) (k := 80 + (k : Int)) (by omega)
  generalize RN.mixI (cellI ns 3) (80 + (k : Int)) = v at mm
  have z3 : 3 ≤ sizeLine := by decide
  have z4 : 4 ≤ sizeLine := by decide
  have lt : rs.length < sizeLine := by unfold sizeLine; omega
  have ix := ix_str (o := false) hk
  have q1 := mod_pos' (i := v) (j := 40000) (by decide)
  have q2 := mod_pos' (i := v) (j := 359000) (by decide)
  have q3 := mod_pos' (i := v) (j := 3) (by decide)
  have q4 := fdiv_pos' (i := v) (j := 3) (by decide) (by decide)
  have q5 := mod_pos' (i := v / 3) (j := (tl.length : Int)) (by omega)
  have q6 := fdiv_pos' (i := v) (j := 100) (by decide) (by decide)
  have b1 := RN.mod_in v (b := 40000) (by decide)
  have b2 := RN.mod_in v (b := 359000) (by decide)
  have b3 := RN.mod_in v (b := 3) (by decide)
  obtain ⟨f, f1, f2⟩ := ix_one (f := D.str) (o := false) (xs := tl) (i := v / 3) ht
  generalize v % 40000 = x1 at *
  generalize v % 359000 = x2 at *
  generalize v % 3 = x3 at *
  generalize v / 3 = x4 at *
  generalize x4 % (tl.length : Int) = x5 at *
  generalize v / 100 = x6 at *
  obtain ⟨c, c1, c2⟩ := ix_mem (xs := [D.int 0, .int x1, .int x2]) b3.1 b3.2
  obtain ⟨st, rfl, s1, s2⟩ : ∃ z : Int, c = .int z ∧ 0 ≤ z ∧ z ≤ 359000 := by
    simp only [List.mem_cons, List.not_mem_nil, or_false] at c2
    rcases c2 with rfl | rfl | rfl
    · exact ⟨_, rfl, by omega, by omega⟩
    · exact ⟨_, rfl, by omega, by omega⟩
    · exact ⟨_, rfl, by omega, by omega⟩
  obtain ⟨d, d1, d2⟩ := ix_mem (xs := [D.int 1, .int 300, .int 10000]) b3.1 b3.2
  obtain ⟨w, rfl, w1, w2⟩ : ∃ z : Int, d = .int z ∧ 0 < z ∧ z ≤ 10000 := by
    simp only [List.mem_cons, List.not_mem_nil, or_false] at d2
    rcases d2 with rfl | rfl | rfl
    · exact ⟨_, rfl, by omega, by omega⟩
    · exact ⟨_, rfl, by omega, by omega⟩
    · exact ⟨_, rfl, by omega, by omega⟩
  have q7 := mod_pos' (i := x6) (j := w) w1
  have b7 := RN.mod_in x6 (b := w) w1
  generalize x6 % w = di at *
  have e17 : t__law_meeting_17 (E4 ns nb nr nm cs (some (.int (k : Int))) sl fl bs mn dr tl rs cl m op) = .nx (E4 ns nb nr nm cs (some (.int (k : Int))) sl fl bs mn dr tl rs cl (some (.int v)) op) := by
    simp [t__law_meeting_17, cell_3, mm]
  have e18 : t__law_meeting_18 (E4 ns nb nr nm cs (some (.int (k : Int))) sl fl bs mn dr tl rs cl (some (.int v)) op) = .nx (E4 ns nb nr nm cs (some (.int (k : Int))) sl fl bs mn dr tl rs cl (some (.int v)) (some (.int st))) := by
    simp [t__law_meeting_18, q1, q2, q3, c1, z3]
  have e19 : t__law_meeting_19 (E4 ns nb nr nm cs (some (.int (k : Int))) sl fl bs mn dr tl rs cl (some (.int v)) (some (.int st))) = .nx (E4 ns nb nr nm cs (some (.int (k : Int))) sl fl bs mn dr tl (rs ++ [(cl.getD k "", f, st, di)]) cl (some (.int v)) (some (.int st))) := by
    simp [t__law_meeting_19, ix, q3, q4, q5, q6, f2, d1, q7, z3, z4, lt, raceD]
  exact ⟨f, st, di, _, _, f1, s1, s2, b7.1, by omega, by rw [k__law_meeting_21, sThen_ap, e17, andThen_nx, sThen_ap, e18, andThen_nx, e19]⟩
def RcOk (tl : List Str) (r : RcT) : Prop := r.2.1 ∈ tl ∧ 0 ≤ r.2.2.1 ∧ r.2.2.1 ≤ 359000 ∧ 0 ≤ r.2.2.2 ∧ r.2.2.2 ≤ 9999
theorem rc_loop {ns : List Int} {nb nr : Int} {nm : List Str} {cs : List ClT} {k0 : Option D} {sl fl : List Str} {bs : List BtT} {mn : Int} {dr : List Int} {tl cl : List Str} {m0 : Option D} {n : Nat} (hn : n ≤ cl.length) (hn2 : n ≤ 100) (ht : 0 < tl.length) :
    ∃ (rs : List RcT) (k m op : Option D), forRun (.nm 5) k__law_meeting_21 (ups 0 n) (E4 ns nb nr nm cs k0 sl fl bs mn dr tl [] cl m0 none) = .nx (E4 ns nb nr nm cs k sl fl bs mn dr tl rs cl m op) ∧ rs.map (·.1) = cl.take n ∧ ∀ r ∈ rs, RcOk tl r := by
  obtain ⟨ρ', hf, rs, k, m, op, rfl, h1, h2⟩ := for_up (t := 5) (S := k__law_meeting_21) (fun i ρ => ∃ rs k m op, ρ = E4 ns nb nr nm cs k sl fl bs mn dr tl rs cl m op ∧ rs.map (·.1) = cl.take i ∧ ∀ r ∈ rs, RcOk tl r)
    (n := n) (ρ := E4 ns nb nr nm cs k0 sl fl bs mn dr tl [] cl m0 none) ⟨[], k0, m0, none, rfl, by simp, by simp⟩ (by
      rintro i ρ ⟨rs, k, m, op, rfl, _⟩
      simp) (by
      rintro i ρ hi ⟨rs, k, m, op, rfl, h1, h2⟩
      have rl : rs.length = i := by
        have := congrArg List.length h1
        rw [List.length_map, List.length_take] at this
        omega
      obtain ⟨f, st, di, m', op', g1, g2, g3, g4, g5, g6⟩ := rc_step (ns := ns) (nb := nb) (nr := nr) (nm := nm) (cs := cs) (sl := sl) (fl := fl) (bs := bs) (mn := mn) (dr := dr) (tl := tl) (rs := rs) (cl := cl) (m := m) (op := op) (k := i) (by omega) (by omega) (by omega) ht
      refine ⟨_, g6, _, _, _, _, rfl, ?_, ?_⟩
      · rw [List.map_append, h1, List.take_succ]
        rw [List.getElem?_eq_getElem (by omega)]
        simp [List.getD, List.getElem?_eq_getElem (show i < cl.length by omega)]
      · intro r hr
        rcases List.mem_append.mp hr with hr | hr
        · exact h2 r hr
        · rw [List.mem_singleton.mp hr]; exact ⟨g1, g2, g3, g4, g5⟩)
  exact ⟨rs, k, m, op, hf, h1, h2⟩
end RM
namespace RM
open PySem RL L2
structure Mt where
  cs : List ClT
  bs : List BtT
  ds : List Int
  rs : List RcT
def Mt.D (m : Mt) : D := .tup [.tux (m.cs.map clD), .tup (m.bs.map boatD), .tup (m.ds.map .int), .tup (m.rs.map raceD)]
structure Good (nb nr : Nat) (m : Mt) : Prop where
  cnd : (m.cs.map (·.1)).Nodup
  c0 : 0 < m.cs.length
  c6 : m.cs.length ≤ 6
  cnm : ∀ c ∈ m.cs, RN.Nm c.1
  chc : ∀ c ∈ m.cs, HcOk c.2
  bnd : (m.bs.map (·.1)).Nodup
  b0 : 0 < m.bs.length
  bn : m.bs.length ≤ nb
  bnm : ∀ b ∈ m.bs, RN.Nm b.1
  bcl : ∀ b ∈ m.bs, b.2.1 ∈ m.cs.map (·.1)
  bfl : ∃ fl : List Str, fl.Nodup ∧ fl.length ≤ 3 ∧ (∀ f ∈ fl, RN.Nm f) ∧ ∀ b ∈ m.bs, b.2.2 ∈ fl
  dup : m.ds.Pairwise (· < ·)
  d3 : m.ds.length ≤ 3
  din : ∀ d ∈ m.ds, 1 ≤ d ∧ d ≤ 12
  rnd : (m.rs.map (·.1)).Nodup
  rn : m.rs.length ≤ nr
  rnm : ∀ r ∈ m.rs, RN.Nm r.1
  rok : ∀ r ∈ m.rs, RcOk (m.bs.map (fun b => b.2.2) ++ [("all" : Str)]) r
theorem Good.bfn {nb nr : Nat} {m : Mt} (g : Good nb nr m) {b : BtT} (h : b ∈ m.bs) : RN.Nm b.2.2 := by
  obtain ⟨fl, _, _, h3, h4⟩ := g.bfl
  exact h3 _ (h4 b h)
theorem modN (v : Int) {b : Int} (hb : 0 < b) : ∃ a : Nat, (a : Int) < b ∧ opMod (.int v) (.int b) = some (.int (a : Int)) := by
  obtain ⟨a, ha⟩ := Int.eq_ofNat_of_zero_le (RN.mod_in v hb).1
  exact ⟨a, by have := (RN.mod_in v hb).2; omega, by rw [mod_pos' hb, ha]⟩
theorem rng_add {a : Nat} (h : a ≤ 100) : opt (rng1 [D.int (1 + (a : Int))]) = .ok (ups 0 (a + 1)) := by
  rw [show (1 + (a : Int)) = ((a + 1 : Nat) : Int) by omega, rng1_nat (by omega)]; rfl
theorem rng_nat {a : Nat} (h : a ≤ 100) : opt (rng1 [D.int (a : Int)]) = .ok (ups 0 a) := by
  rw [rng1_nat (by omega)]; rfl
theorem namesK (n : Int) (many : Nat) {k : Int} (hk : k = (many : Int)) (h : many ≤ 34) : ∃ xs : List Str, RN.f__law_names [.int n, .int k] = .ok (.lst true (xs.map .str)) [] ∧ xs.Nodup ∧ xs.length = many ∧ ∀ x ∈ xs, RN.Nm x := by
  subst hk
  exact RN.names_eq h
theorem sortI_len (ns : List Int) : (sortI ns).length ≤ ns.length := by
  have nd : (sortI ns).Nodup := (sortI_up ns).imp fun h => by omega
  exact List.Nodup.length_le_of_subset nd fun k hk => sortI_mem.mp hk
theorem meeting_eq {ns : List Int} {nb nr : Nat} (h0 : 0 < nb) (h1 : nb ≤ 24) (h2 : nr ≤ 12) : ∃ m : Mt, Good nb nr m ∧ f__law_meeting [.scr ns, .int (nb : Int), .int (nr : Int)] = .ok m.D [] := by
  obtain ⟨v1, m1⟩ : ∃ v, RN.f__law_mixed [.int (cellI ns 0), .int 1] = .ok (.int v) [] := ⟨_, RN.mix_eq (by decide)⟩
  obtain ⟨v2, m2⟩ : ∃ v, RN.f__law_mixed [.int (cellI ns 1), .int 2] = .ok (.int v) [] := ⟨_, RN.mix_eq (by decide)⟩
  obtain ⟨v3, m3⟩ : ∃ v, RN.f__law_mixed [.int (cellI ns 2), .int 3] = .ok (.int v) [] := ⟨_, RN.mix_eq (by decide)⟩
  obtain ⟨v4, m4⟩ : ∃ v, RN.f__law_mixed [.int (cellI ns 1), .int 4] = .ok (.int v) [] := ⟨_, RN.mix_eq (by decide)⟩
  obtain ⟨v5, m5⟩ : ∃ v, RN.f__law_mixed [.int (cellI ns 3), .int 5] = .ok (.int v) [] := ⟨_, RN.mix_eq (by decide)⟩
  obtain ⟨v6, m6⟩ : ∃ v, RN.f__law_mixed [.int (cellI ns 3), .int 6] = .ok (.int v) [] := ⟨_, RN.mix_eq (by decide)⟩
  obtain ⟨nm, n1, nm2, nm3, nm4⟩ := namesK v1 6 (k := 6) rfl (by decide)
  obtain ⟨sl, s1, sl2, sl3, sl4⟩ := namesK v2 24 (k := 24) rfl (by decide)
  obtain ⟨fl0, f1, fl2, fl3, fl4⟩ := namesK v3 3 (k := 3) rfl (by decide)
  obtain ⟨cl, l1, cl2, cl3, cl4⟩ := namesK v5 12 (k := 12) rfl (by decide)
  obtain ⟨a0, a0l, q0⟩ := modN (cellI ns 0) (b := 6) (by decide)
  obtain ⟨a2, a2l, q2⟩ := modN (cellI ns 2) (b := 3) (by decide)
  obtain ⟨a4, a4l, q4⟩ := modN v4 (b := (nb : Int)) (by omega)
  obtain ⟨a6, a6l, q6⟩ := modN v6 (b := (nr : Int) + 1) (by omega)
  have qd := fdiv_pos' (i := cellI ns 2) (j := 3) (by decide) (by decide)
  obtain ⟨a3, a3l, q3⟩ := modN (cellI ns 2 / 3) (b := 4) (by decide)
  generalize cellI ns 2 / 3 = d3 at *
  obtain ⟨cs, ck, cf, cc1, cc2⟩ := cl_loop (ns := ns) (nb := nb) (nr := nr) (nm := nm) (n := a0 + 1) (by omega) (by omega)
  have csl : cs.length = a0 + 1 := by
    have := congrArg List.length cc1
    rw [List.length_map, List.length_take] at this
    omega
  have fll : (fl0.take (a2 + 1)).length = a2 + 1 := by rw [List.length_take]; omega
  have fls : opSl (.lst true (fl0.map .str)) none (some (1 + (a2 : Int))) = some (.lst true ((fl0.take (a2 + 1)).map .str)) := by
    rw [show (1 + (a2 : Int)) = ((a2 + 1 : Nat) : Int) by omega, opSl_l (cleanL_strs), cut_0n, List.map_take]
  generalize hfl : fl0.take (a2 + 1) = fl at *
  obtain ⟨bs, bk, bm, bf, bb1, bb2⟩ := bt_loop (ns := ns) (nb := nb) (nr := nr) (nm := nm) (cs := cs) (sl := sl) (fl := fl) (k0 := ck) (n := a4 + 1) (by omega) (by omega) (by omega) (by omega)
  have bsl : bs.length = a4 + 1 := by
    have := congrArg List.length bb1
    rw [List.length_map, List.length_take] at this
    omega
  have dl := drop_lc (ns := ns) (nb := nb) (nr := nr) (nm := nm) (cs := cs) (sl := sl) (fl := fl) (bs := bs) (k := bk) (m := bm) (n := a3) (by omega)
  obtain ⟨dr, hdr⟩ : ∃ dr : List Int, dr = (List.range a3).map (dropAt (cellI ns 2)) := ⟨_, rfl⟩
  have dr2 : ((List.range a3).map fun k => D.int (dropAt (cellI ns 2) k)) = dr.map .int := by rw [hdr, List.map_map]; rfl
  have dr3 : dr.length ≤ 3 := by rw [hdr, List.length_map, List.length_range]; omega
  have dr4 : ∀ d ∈ dr, 1 ≤ d ∧ d ≤ 12 := fun d hd => by
    rw [hdr] at hd
    obtain ⟨k, _, rfl⟩ := List.mem_map.mp hd
    exact dropAt_in _ _
  rw [dr2] at dl
  clear hdr dr2
  have tlc := told_lc (ns := ns) (nb := nb) (nr := nr) (nm := nm) (cs := cs) (sl := sl) (fl := fl) (bs := bs) (k := bk) (m := bm) (mn := some (.int (a3 : Int))) (dr := some (.lst false (dr.map .int))) (by omega)
  obtain ⟨tl, htl⟩ : ∃ tl : List Str, tl = (bs.map fun b => b.2.2) ++ [("all" : Str)] := ⟨_, rfl⟩
  obtain ⟨rs, rk, rm, ro, rf, rr1, rr2⟩ := rc_loop (ns := ns) (nb := nb) (nr := nr) (nm := nm) (cs := cs) (sl := sl) (fl := fl) (bs := bs) (mn := (a3 : Int)) (dr := dr) (tl := tl) (cl := cl) (k0 := bk) (m0 := bm) (n := a6) (by omega) (by omega) (by rw [htl]; simp)
  have tla : opAdd (.lst true ((bs.map fun b => b.2.2).map .str)) (.lst true [.str "all"]) = some (.lst true (tl.map .str)) := by
    rw [opAdd_l cleanL_strs (by simp) (by simp [sizeLine]; omega), htl]
    simp
  refine ⟨⟨cs, bs, sortI dr, rs⟩, ?_, ?_⟩
  · have mem_take : ∀ {xs : List Str} {n : Nat} {x : Str}, x ∈ xs.take n → x ∈ xs := fun h => List.mem_of_mem_take h
    refine ⟨?_, by rw [csl]; omega, by rw [csl]; omega, fun c hc => ?_, cc2, ?_, by rw [bsl]; omega, by rw [bsl]; omega, fun b hb => ?_, fun b hb => (bb2 b hb).1, ⟨fl, ?_, by omega, ?_, fun b hb => (bb2 b hb).2⟩, sortI_up dr, Nat.le_trans (sortI_len dr) dr3, fun d hd => dr4 d (sortI_mem.mp hd), ?_, ?_, fun r hr => ?_, fun r hr => ?_⟩
    · show (cs.map (·.1)).Nodup
      rw [cc1]; exact nm2.sublist (List.take_sublist _ _)
    · exact nm4 _ (mem_take (cc1 ▸ List.mem_map_of_mem hc))
    · show (bs.map (·.1)).Nodup
      rw [bb1]; exact sl2.sublist (List.take_sublist _ _)
    · exact sl4 _ (mem_take (bb1 ▸ List.mem_map_of_mem hb))
    · rw [← hfl]; exact fl2.sublist (List.take_sublist _ _)
    · intro f hf'
      rw [← hfl] at hf'
      exact fl4 _ (mem_take hf')
    · show (rs.map (·.1)).Nodup
      rw [rr1]; exact cl2.sublist (List.take_sublist _ _)
    · have := congrArg List.length rr1
      rw [List.length_map, List.length_take] at this
      show rs.length ≤ nr
      omega
    · exact cl4 _ (mem_take (rr1 ▸ List.mem_map_of_mem hr))
    · rw [← htl]; exact rr2 r hr
  have e0 : t__law_meeting_0 [some (.scr ns), some (.int nb), some (.int nr), none, none, none, none, none, none, none, none, none, none, none, none, none, none] = .nx [some (.scr ns), some (.int nb), some (.int nr), some (.lst false (nm.map .str)), none, none, none, none, none, none, none, none, none, none, none, none, none] := by
    simp [t__law_meeting_0, cell_0, m1, n1]
  have z0 : 0 ≤ sizeLine := by decide
  have e1 : t__law_meeting_1 [some (.scr ns), some (.int nb), some (.int nr), some (.lst false (nm.map .str)), none, none, none, none, none, none, none, none, none, none, none, none, none] = .nx (E1 ns nb nr nm [] none) := by
    simp [t__law_meeting_1, z0]
  have e3 : t__law_meeting_3 (E1 ns nb nr nm [] none) = .nx (E1 ns nb nr nm cs ck) := by
    have e : (sCons (s2 opAdd (sC (.int 1)) (s2 opMod (sCallF 2 f__law_cell_at (sCons (sVar 0) (sCons (sC (.int 0)) sNil))) (sC (.int 6)))) sNil) (E1 ns nb nr nm [] none) = .ok [D.int (1 + (a0 : Int))] := by simp [cell_0, q0]
    rw [t__law_meeting_3, sFor_ap, sI_ap, e, bind_ok, rng_add (by omega), stm_ok]
    exact cf
  have e4 : t__law_meeting_4 (E1 ns nb nr nm cs ck) = .nx [some (.scr ns), some (.int nb), some (.int nr), some (.lst false (nm.map .str)), some (.lst true (cs.map clD)), ck, some (.lst false (sl.map .str)), none, none, none, none, none, none, none, none, none, none] := by
    simp [t__law_meeting_4, cell_1, m2, s1]
  have e5 : t__law_meeting_5 [some (.scr ns), some (.int nb), some (.int nr), some (.lst false (nm.map .str)), some (.lst true (cs.map clD)), ck, some (.lst false (sl.map .str)), none, none, none, none, none, none, none, none, none, none] = .nx [some (.scr ns), some (.int nb), some (.int nr), some (.lst false (nm.map .str)), some (.lst true (cs.map clD)), ck, some (.lst false (sl.map .str)), some (.lst false (fl.map .str)), none, none, none, none, none, none, none, none, none] := by
    simp [t__law_meeting_5, cell_2, m3, f1, q2, fls]
  have e6 : t__law_meeting_6 [some (.scr ns), some (.int nb), some (.int nr), some (.lst false (nm.map .str)), some (.lst true (cs.map clD)), ck, some (.lst false (sl.map .str)), some (.lst false (fl.map .str)), none, none, none, none, none, none, none, none, none] = .nx (E2 ns nb nr nm cs ck sl fl [] none) := by
    simp [t__law_meeting_6, z0]
  have e9 : t__law_meeting_9 (E2 ns nb nr nm cs ck sl fl [] none) = .nx (E2 ns nb nr nm cs bk sl fl bs bm) := by
    have e : (sCons (s2 opAdd (sC (.int 1)) (s2 opMod (sCallF 2 RN.f__law_mixed (sCons (sCallF 2 f__law_cell_at (sCons (sVar 0) (sCons (sC (.int 1)) sNil))) (sCons (sC (.int 4)) sNil))) (sVarB 1))) sNil) (E2 ns nb nr nm cs ck sl fl [] none) = .ok [D.int (1 + (a4 : Int))] := by simp [cell_1, m4, q4]
    rw [t__law_meeting_9, sFor_ap, sI_ap, e, bind_ok, rng_add (by omega), stm_ok]
    exact bf
  have e10 : t__law_meeting_10 (E2 ns nb nr nm cs bk sl fl bs bm) = .nx (E3 ns nb nr nm cs bk sl fl bs (some (.int (a3 : Int))) none none none none bm none none) := by
    simp [t__law_meeting_10, cell_2, qd, q3]
  have e12 : t__law_meeting_12 (E3 ns nb nr nm cs bk sl fl bs (some (.int (a3 : Int))) none none none none bm none none) = .nx (E3 ns nb nr nm cs bk sl fl bs (some (.int (a3 : Int))) (some (.lst false (dr.map .int))) none none none bm none none) := by
    rw [t__law_meeting_12, sAsg_ap, dl]
    simp
  have e14 : t__law_meeting_14 (E3 ns nb nr nm cs bk sl fl bs (some (.int (a3 : Int))) (some (.lst false (dr.map .int))) none none none bm none none) = .nx (E3 ns nb nr nm cs bk sl fl bs (some (.int (a3 : Int))) (some (.lst false (dr.map .int))) (some (.lst false (tl.map .str))) none none bm none none) := by
    have z1 : 1 ≤ sizeLine := by decide
    rw [t__law_meeting_14, sAsg_ap, s2_ap, tlc]
    simp only [bind_ok, sLst_ap, sCons_ap, sC_ap, sNil_ap, List.length_cons, List.length_nil, Nat.zero_add, z1, if_true, tla, opt_some, stm_ok]
    simp
  have e15 : t__law_meeting_15 (E3 ns nb nr nm cs bk sl fl bs (some (.int (a3 : Int))) (some (.lst false (dr.map .int))) (some (.lst false (tl.map .str))) none none bm none none) = .nx (E3 ns nb nr nm cs bk sl fl bs (some (.int (a3 : Int))) (some (.lst false (dr.map .int))) (some (.lst false (tl.map .str))) (some (.lst true [])) none bm none none) := by
    simp [t__law_meeting_15, z0]
  have e16 : t__law_meeting_16 (E3 ns nb nr nm cs bk sl fl bs (some (.int (a3 : Int))) (some (.lst false (dr.map .int))) (some (.lst false (tl.map .str))) (some (.lst true [])) none bm none none) = .nx (E4 ns nb nr nm cs bk sl fl bs a3 dr tl [] cl bm none) := by
    simp [t__law_meeting_16, cell_3, m5, l1]
  have e20 : t__law_meeting_20 (E4 ns nb nr nm cs bk sl fl bs a3 dr tl [] cl bm none) = .nx (E4 ns nb nr nm cs rk sl fl bs a3 dr tl rs cl rm ro) := by
    have e : (sCons (s2 opMod (sCallF 2 RN.f__law_mixed (sCons (sCallF 2 f__law_cell_at (sCons (sVar 0) (sCons (sC (.int 3)) sNil))) (sCons (sC (.int 6)) sNil))) (s2 opAdd (sVarB 2) (sC (.int 1)))) sNil) (E4 ns nb nr nm cs bk sl fl bs a3 dr tl [] cl bm none) = .ok [D.int (a6 : Int)] := by simp [cell_3, m6, q6]
    rw [t__law_meeting_20, sFor_ap, sI_ap, e, bind_ok, rng_nat (by omega), stm_ok]
    exact rf
  have e21 : t__law_meeting_21 (E4 ns nb nr nm cs rk sl fl bs a3 dr tl rs cl rm ro) = .rt (Mt.D ⟨cs, bs, sortI dr, rs⟩) (E4 ns nb nr nm cs rk sl fl bs a3 dr tl rs cl rm ro) := by
    have z4 : 4 ≤ sizeLine := by decide
    have c1 := cleanL_of clD_clean cs
    have c2 := cleanL_of boatD_clean bs
    have c3 := cleanL_of raceD_clean rs
    have ss : fSortSet (.lst false (dr.map .int)) = some (.lst true ((sortI dr).map .int)) := by
      simp only [fSortSet, intsD_map, Option.bind_some]
      simp; omega
    simp [t__law_meeting_21, fTuple, fTux, c1, c2, c3, ss, z4, Mt.D]
  rw [f__law_meeting, runDef_ap]
  unfold b__law_meeting
  rw [sThen_ap, show entry 17 [D.scr ns, .int nb, .int nr] = [some (.scr ns), some (.int nb), some (.int nr), none, none, none, none, none, none, none, none, none, none, none, none, none, none] from rfl, e0, andThen_nx, sThen_ap, e1, andThen_nx, sThen_ap, e3, andThen_nx, sThen_ap, e4, andThen_nx, sThen_ap, e5, andThen_nx, sThen_ap, e6, andThen_nx, sThen_ap, e9, andThen_nx, sThen_ap, e10, andThen_nx, sThen_ap, e12, andThen_nx, sThen_ap, e14, andThen_nx, sThen_ap, e15, andThen_nx, sThen_ap, e16, andThen_nx, sThen_ap, e20, andThen_nx, e21]
  rfl
end RM
namespace RG
open PySem RL
open RH (f_handicap_of f_LevelHandicap_plain f_Handicap_plain)
abbrev cs_crews : List Str := ["Meeting"]
abbrev cs_kinds : List Str := ["Meeting"]
abbrev cs_limits : List Str := ["Meeting"]
abbrev cs_runs : List Str := ["Meeting"]
def t_is_in_0 : RL.Env → SRes := (sRet (sAnd (s1 (fIsTy "str") (sVarB 0)) (s2 oIn (sVarB 0) (sVarB 1))))
def b_is_in : RL.Env → SRes := t_is_in_0
def f_is_in : List D → FR := runDef 2 [] b_is_in
def l_Meeting_fleets_0 : RL.Env → Res D := (sLc (sVals (sCl (sFld cs_crews "crews" (sVarB 0)))) (.nm 1) [1] sYes (sTup (sCons (sCl (sIx (sVarB 1) (sC (.int 2)))) (sCons (sC (.bl true)) sNil))))
def t_Meeting_fleets_1 : RL.Env → SRes := (sRet (sCall (on1 fListX) (sCons (s1 fDict l_Meeting_fleets_0) sNil)))
def b_Meeting_fleets : RL.Env → SRes := t_Meeting_fleets_1
def f_Meeting_fleets : List D → FR := runDef 2 [] b_Meeting_fleets
def t_Meeting_boat_0 : RL.Env → SRes := (sIfS (sNot (sTest (sCallF 2 f_is_in (sCons (sVar 1) (sCons (sCl (sFld cs_crews "crews" (sVarB 0))) sNil))))) (sRaise "NoName") sNext)
def t_Meeting_boat_1 : RL.Env → SRes := (sRet (sCl (sIx (sFld cs_crews "crews" (sVarB 0)) (sVarB 1))))
def b_Meeting_boat : RL.Env → SRes := (sThen t_Meeting_boat_0
    t_Meeting_boat_1)
def f_Meeting_boat : List D → FR := runDef 2 [] b_Meeting_boat
abbrev tab_fleets : List (Str × (List D → FR)) := [("Meeting", f_Meeting_fleets)]
abbrev tab_plain : List (Str × (List D → FR)) := [("LevelHandicap", f_LevelHandicap_plain), ("FactorHandicap", f_Handicap_plain), ("YardHandicap", f_Handicap_plain), ("MileHandicap", f_Handicap_plain)]
def l_Meeting_plain_0 : RL.Env → Res D := (sLc (sItems (sCl (sFld cs_kinds "kinds" (sVarB 0)))) (.tp [(.nm 2), (.nm 3)]) [2, 3] sYes (sTup (sCons (sVar 2) (sCons (sMeth "plain" tab_plain 1 (sVar 3) sNil) sNil))))
def t_Meeting_plain_1 : RL.Env → SRes := (sAsg (.nm 1) true (sCall (on1 fTuple) (sCons l_Meeting_plain_0 sNil)))
def t_Meeting_plain_2 : RL.Env → SRes := (sRet (sTup (sCons (sVar 1) (sCons (s1 fTupV (sFld cs_crews "crews" (sVarB 0))) (sCons (sCl (sFld cs_limits "limits" (sVarB 0))) (sCons (s1 fTupV (sFld cs_runs "runs" (sVarB 0))) sNil))))))
def b_Meeting_plain : RL.Env → SRes := (sThen t_Meeting_plain_1
    t_Meeting_plain_2)
def f_Meeting_plain : List D → FR := runDef 4 [] b_Meeting_plain
def t_Meeting___init___0 : RL.Env → SRes := (sAsg (.tp [(.nm 2), (.nm 3), (.nm 4), (.nm 5)]) true (sVar 1))
def l_Meeting___init___1 : RL.Env → Res D := (sLc (sIter (sTo D.tp1 (sVar 2))) (.tp [(.nm 8), (.nm 9)]) [8, 9] sYes (sTup (sCons (sVar 8) (sCons (sCallF 1 f_handicap_of (sCons (sVar 9) sNil)) sNil))))
def t_Meeting___init___2 : RL.Env → SRes := (sSetF cs_kinds "kinds" true (plVar 0) (s1 fDict l_Meeting___init___1))
def l_Meeting___init___3 : RL.Env → Res D := (sLc (sIter (sVar 3)) (.nm 6) [6] sYes (sTup (sCons (sCl (sIx (sVarB 6) (sC (.int 0)))) (sCons (sVar 6) sNil))))
def t_Meeting___init___4 : RL.Env → SRes := (sSetF cs_crews "crews" true (plVar 0) (s1 fDict l_Meeting___init___3))
def t_Meeting___init___5 : RL.Env → SRes := (sSetF cs_limits "limits" true (plVar 0) (sCall (on1 fTuple) (sCons (sVarB 4) sNil)))
def l_Meeting___init___6 : RL.Env → Res D := (sLc (sIter (sVar 5)) (.nm 7) [7] sYes (sTup (sCons (sCl (sIx (sVarB 7) (sC (.int 0)))) (sCons (sVar 7) sNil))))
def t_Meeting___init___7 : RL.Env → SRes := (sSetF cs_runs "runs" true (plVar 0) (s1 fDict l_Meeting___init___6))
def b_Meeting___init__ : RL.Env → SRes := (sThen t_Meeting___init___0
    (sThen t_Meeting___init___2
    (sThen t_Meeting___init___4
    (sThen t_Meeting___init___5
    t_Meeting___init___7))))
def f_Meeting___init__ : List D → FR := runDef 10 [0] b_Meeting___init__
def t_meeting_of_0 : RL.Env → SRes := (sRet (sMake "Meeting" 2 f_Meeting___init__ (sCons (sVar 0) sNil)))
def b_meeting_of : RL.Env → SRes := t_meeting_of_0
def f_meeting_of : List D → FR := runDef 1 [] b_meeting_of
end RG
namespace RG
open PySem RL RM L2
abbrev fs4 : List Str := ["kinds", "crews", "limits", "runs"]
def objO (o : Bool) (m : Mt) : D := .obj o "Meeting" fs4 [dT false (fun c : ClT => c.1) (fun c => c.2.obj false) m.cs, dT false (fun b : BtT => b.1) boatD m.bs, .tup (m.ds.map .int), dT false (fun r : RcT => r.1) raceD m.rs]
abbrev obj (m : Mt) : D := objO false m
theorem hobj_clean (c : ClT) : ((fun c : ClT => c.2.obj false) c).clean = true := by simp
theorem kinds_clean {cs : List ClT} : (dT false (fun c : ClT => c.1) (fun c => c.2.obj false) cs).clean = true := dT_clean fun c _ => hobj_clean c
theorem crews_clean {bs : List BtT} : (dT false (fun b : BtT => b.1) boatD bs).clean = true := dT_clean fun c _ => boatD_clean c
theorem runs_clean {rs : List RcT} : (dT false (fun r : RcT => r.1) raceD rs).clean = true := dT_clean fun c _ => raceD_clean c
@[simp] theorem obj_clean {m : Mt} : (obj m).clean = true := by
  simp [obj, objO, D.clean, kinds_clean, crews_clean, runs_clean]
@[simp] theorem obj_frz {o : Bool} {m : Mt} : (objO o m).frz = obj m := by
  simp [obj, objO, D.frz, dT_frz, boatD_frz, raceD_frz]
section
variable {o : Bool} {m : Mt}
theorem g_kinds : getF cs_kinds "kinds" (objO o m) = some (dT false (fun c : ClT => c.1) (fun c => c.2.obj false) m.cs) := by
  have : ixOf fs4 ("kinds" : Str) = some 0 := by decide +kernel
  simp [getF, objO, this]
theorem g_crews : getF cs_crews "crews" (objO o m) = some (dT false (fun b : BtT => b.1) boatD m.bs) := by
  have : ixOf fs4 ("crews" : Str) = some 1 := by decide +kernel
  simp [getF, objO, this]
theorem g_limits : getF cs_limits "limits" (objO o m) = some (.tup (m.ds.map .int)) := by
  have : ixOf fs4 ("limits" : Str) = some 2 := by decide +kernel
  simp [getF, objO, this]
theorem g_runs : getF cs_runs "runs" (objO o m) = some (dT false (fun r : RcT => r.1) raceD m.rs) := by
  have : ixOf fs4 ("runs" : Str) = some 3 := by decide +kernel
  simp [getF, objO, this]
end
@[simp] theorem mtD_clean {m : Mt} : m.D.clean = true := by
  simp [Mt.D, cleanL_of clD_clean, cleanL_of boatD_clean, cleanL_of raceD_clean]
@[simp] theorem mtD_frz {m : Mt} : m.D.frz = m.D := by
  simp [Mt.D, frzL_of clD_frz, frzL_of boatD_frz, frzL_of raceD_frz]
theorem of_eq {m : Mt} {nb nr : Nat} (g : Good nb nr m) (hb : nb ≤ 100) (hr : nr ≤ 100) : f_meeting_of [m.D] = .ok (objO true m) [] := by
  have s0 : ∀ a : D, setF cs_kinds "kinds" a (.obj true "Meeting" [] []) = some (.obj true "Meeting" ["kinds"] [a]) := fun a => rfl
  have s1 : ∀ a b : D, setF cs_crews "crews" b (.obj true "Meeting" ["kinds"] [a]) = some (.obj true "Meeting" ["kinds", "crews"] [a, b]) := fun a b => rfl
  have s2 : ∀ a b c : D, setF cs_limits "limits" c (.obj true "Meeting" ["kinds", "crews"] [a, b]) = some (.obj true "Meeting" ["kinds", "crews", "limits"] [a, b, c]) := fun a b c => rfl
  have s3 : ∀ a b c d : D, setF cs_runs "runs" d (.obj true "Meeting" ["kinds", "crews", "limits"] [a, b, c]) = some (.obj true "Meeting" ["kinds", "crews", "limits", "runs"] [a, b, c, d]) := fun a b c d => rfl
  have h2 : 2 ≤ sizeLine := by decide
  have l1 : ∀ a : D, l_Meeting___init___1 [some a, some m.D, some (.tux (m.cs.map clD)), some (.tup (m.bs.map boatD)), some (.tup (m.ds.map .int)), some (.tup (m.rs.map raceD)), none, none, none, none] = .ok (.lst true (m.cs.map fun c => .tup [.str c.1, c.2.obj true])) := fun a => by
    refine lc_map (e := clD) (by have := g.c6; omega) (by simp [cleanL_of clD_clean]) fun c hc => ?_
    have h := RH.of_eq c.2
    simp [lcOne, wipeE, clD, h, h2]
  have l3 : ∀ a : D, l_Meeting___init___3 [some a, some m.D, some (.tux (m.cs.map clD)), some (.tup (m.bs.map boatD)), some (.tup (m.ds.map .int)), some (.tup (m.rs.map raceD)), none, none, none, none] = .ok (.lst true (m.bs.map fun b => .tup [.str b.1, boatD b])) := fun a => by
    refine lc_map (e := boatD) (by have := g.bn; omega) (by simp [cleanL_of boatD_clean]) fun c hc => ?_
    simp [lcOne, wipeE, boatD, h2]
  have l6 : ∀ a : D, l_Meeting___init___6 [some a, some m.D, some (.tux (m.cs.map clD)), some (.tup (m.bs.map boatD)), some (.tup (m.ds.map .int)), some (.tup (m.rs.map raceD)), none, none, none, none] = .ok (.lst true (m.rs.map fun b => .tup [.str b.1, raceD b])) := fun a => by
    refine lc_map (e := raceD) (by have := g.rn; omega) (by simp [cleanL_of raceD_clean]) fun c hc => ?_
    simp [lcOne, wipeE, raceD, h2]
  have d1 := dict_T (o := true) (v := fun c : ClT => c.2.obj true) g.cnd
  have d3 := dict_T (o := true) (v := boatD) g.bnd
  have d6 := dict_T (o := true) (v := raceD) g.rnd
  have e0 : t_Meeting___init___0 [some (.obj true "Meeting" [] []), some m.D, none, none, none, none, none, none, none, none] = .nx [some (.obj true "Meeting" [] []), some m.D, some (.tux (m.cs.map clD)), some (.tup (m.bs.map boatD)), some (.tup (m.ds.map .int)), some (.tup (m.rs.map raceD)), none, none, none, none] := by
    simp only [t_Meeting___init___0, sAsg_ap]
    rw [sVar_ap (d := m.D) rfl, if_pos mtD_clean, stm_ok, if_pos trivial, mtD_frz]
    simp [Mt.D]
  have i1 : f_Meeting___init__ [.obj true "Meeting" [] [], m.D] = .ok .non [objO true m] := by
    rw [f_Meeting___init__, runDef_ap]
    unfold b_Meeting___init__
    rw [sThen_ap, show entry 10 [D.obj true "Meeting" [] [], m.D] = [some (.obj true "Meeting" [] []), some m.D, none, none, none, none, none, none, none, none] from rfl, e0, andThen_nx]
    simp [t_Meeting___init___2, t_Meeting___init___4, t_Meeting___init___5, t_Meeting___init___7, l1, l3, l6, d1, d3, d6, s0, s1, s2, s3, dT_frz, boatD_frz, raceD_frz, fTuple]
    rfl
  rw [f_meeting_of, runDef_ap]
  simp [b_meeting_of, t_meeting_of_0, entry, mkRes, i1]
def isIn (d : D) (xs : List Str) : Bool := match d with
  | .str s => decide (s ∈ xs)
  | _ => false
theorem isTy_str {d : D} (h : (tyName d).isSome = true) : fIsTy "str" d = some (.bl (match d with | .str _ => true | _ => false)) := by
  cases d <;> simp [tyName] at h <;> simp [fIsTy, tyName] <;> decide +kernel
theorem is_in_T {α : Type} {k : α → Str} {v : α → D} {xs : List α} {o : Bool} {d : D} (h : (tyName d).isSome = true) : f_is_in [d, dT o k v xs] = .ok (.bl (isIn d (xs.map k))) [] := by
  rw [f_is_in, runDef_ap]
  have t := isTy_str h
  cases d with
  | str s => simp [b_is_in, t_is_in_0, entry, t, in_T, isIn]
  | _ => first | (simp [b_is_in, t_is_in_0, entry, t, isIn]; done) | simp [tyName] at h
section
variable {m : Mt} {nb nr : Nat}
def fleets (m : Mt) : List Str := nub (m.bs.map fun b => b.2.2)
theorem boat_eq (g : Good nb nr m) {b : BtT} (h : b ∈ m.bs) : f_Meeting_boat [obj m, .str b.1] = .ok (boatD b) [] := by
  have i := is_in_T (k := fun r : BtT => r.1) (v := boatD) (xs := m.bs) (o := false) (d := .str b.1) rfl
  have ii : isIn (.str b.1) (m.bs.map fun r => r.1) = true := by simp [isIn]; exact ⟨_, _, h⟩
  have x := ix_T (o := false) (v := boatD) h g.bnd
  have x2 := dT_frz_same (o := false) (k := fun r : BtT => r.1) (v := boatD) (xs := m.bs) fun r _ => boatD_frz r
  rw [f_Meeting_boat, runDef_ap]
  simp [b_Meeting_boat, t_Meeting_boat_0, t_Meeting_boat_1, entry, g_crews, i, ii, x, x2, boatD_clean, crews_clean]
abbrev wAll : Str := "all"
theorem fleet_told (g : Good nb nr m) {r : RcT} (h : r ∈ m.rs) : r.2.1 = wAll ∨ r.2.1 ∈ fleets m := by
  have := (g.rok r h).1
  rcases List.mem_append.mp this with z | z
  · exact .inr (nubA_mem.mpr (.inr z))
  · exact .inl (List.mem_singleton.mp z)
end
end RG
namespace RL
open PySem PySem.Spec PyProof.Rows L2
theorem costL_le {c : Nat} : ∀ {ds : List D}, (∀ d ∈ ds, costD d ≤ c) → costL ds ≤ ds.length * (c + 2)
  | [], _ => by simp [costL]
  | d :: ds, h => by
    have h1 := h d List.mem_cons_self
    have h2 := costL_le fun e he => h e (List.mem_cons_of_mem d he)
    rw [costL, List.length_cons, Nat.add_mul]
    omega
def Sh (n c : Nat) (d : D) : Prop := repN n d = true ∧ costD d ≤ c
theorem Sh.le {n c c' : Nat} {d : D} (h : Sh n c d) (l : c ≤ c') : Sh n c' d := ⟨h.1, Nat.le_trans h.2 l⟩
theorem sh_int {n : Nat} {i : Int} (h : 0 ≤ i) (h2 : i ≤ 1000000) : Sh n 1910 (.int i) := by
  have b : Bd 20 i := by unfold Bd; omega
  have s := b.sml (by decide)
  refine ⟨?_, by simp [costD]⟩
  cases n <;> simp [repN, s]
theorem sh_str {n c : Nat} {x : Str} (h : PyData.strOk x = true) (l : x.length ≤ c) : Sh n (10 * c + 2) (.str x) := by
  refine ⟨?_, by simp only [costD]; omega⟩
  cases n <;> simp [repN, h]
theorem sh_tup {n c k : Nat} {ds : List D} (h : ∀ d ∈ ds, Sh n c d) (l : ds.length ≤ k) : Sh (n + 1) (k * (c + 2) + 4) (.tup ds) := by
  refine ⟨?_, ?_⟩
  · simp only [repN, List.all_eq_true]
    exact fun d hd => (h d hd).1
  · have := costL_le fun d hd => (h d hd).2
    have := Nat.mul_le_mul_right (c + 2) l
    simp only [costD]
    omega
theorem Sh.rep {c : Nat} {d : D} (h : Sh 50 c d) (l : c ≤ 10000000) : fRepr [d] = some (.str d.py.shown) := by
  refine fRepr_ok ?_
  unfold repOk
  rw [h.1, Bool.true_and]
  exact decide_eq_true (by have := h.2; unfold sizeLine; omega)
structure Nx (x : Str) : Prop where
  ok : PyData.strOk x = true
  hi : x.length ≤ 6
theorem nx_of {x : Str} (h : RN.Nm x) : Nx x := by
  refine ⟨?_, h.hi⟩
  unfold PyData.strOk
  rw [Array.all_eq_true']
  intro c hc
  have hm : c ∈ RN.signs := h.sg c (Array.mem_toList_iff.mpr hc)
  have : ∀ c ∈ RN.signs, decide (c < 0x110000) = true := by decide
  exact this c hm
theorem nx_all : Nx "all" := ⟨by decide +kernel, by decide +kernel⟩
theorem Nx.sh {n : Nat} {x : Str} (h : Nx x) : Sh n 62 (.str x) := sh_str h.ok h.hi
end RL
namespace RG
open PySem RL RM L2
def tD (m : Mt) : D := .tup [.tup (m.cs.map clD), .tup (m.bs.map boatD), .tup (m.ds.map .int), .tup (m.rs.map raceD)]
theorem tpL_same {α : Type} {f : α → D} (h : ∀ a, (f a).tp = f a) : ∀ xs : List α, tpL (xs.map f) = xs.map f
  | [] => rfl
  | x :: xs => by simp only [List.map_cons, tpL, h x, tpL_same h xs]
theorem tp_eq {m : Mt} : m.D.tp = tD m := by
  have h1 : ∀ c : ClT, (clD c).tp = clD c := by
    rintro ⟨n, h⟩
    cases h <;> simp [clD, RH.Hc.plain, D.tp, tpL]
  have h2 : ∀ c : BtT, (boatD c).tp = boatD c := by intro c; simp [boatD, D.tp, tpL]
  have h3 : ∀ c : RcT, (raceD c).tp = raceD c := by intro c; simp [raceD, D.tp, tpL]
  have h4 : ∀ i : Int, (D.int i).tp = .int i := by intro i; simp [D.tp]
  simp only [Mt.D, D.tp, tpL, tpL_same h1, tpL_same h2, tpL_same h3, tpL_same h4, tD]
theorem plain_eq {m : Mt} (hc : m.cs.length ≤ 10000) : f_Meeting_plain [obj m] = .ok (tD m) [] := by
  have h2 : 2 ≤ sizeLine := by decide
  have h4 : 4 ≤ sizeLine := by decide
  have l0 : l_Meeting_plain_0 [some (obj m), none, none, none] = .ok (.lst true (m.cs.map clD)) := by
    refine lc_map (e := fun c : ClT => .tup [.str c.1, c.2.obj false]) hc (by
      simp [g_kinds, kinds_clean, items_T (v := fun c : ClT => c.2.obj false) fun c _ => hobj_clean c]) fun c _ => ?_
    have e : sMeth "plain" tab_plain 1 (sVar 3) sNil [some (obj m), none, some (.str c.1), some (c.2.obj false)] = .ok c.2.plain := by
      refine (RH.meth4 (h := c.2) (o := false) (ds := []) RH.ne_pb (by simp) (by simp) rfl).trans ?_
      have := RH.plain_eq c.2
      simp only [frzL_nil]
      rw [this]
      rfl
    simp only [lcOne, wipeE, List.set, tg_tp, tgL_cons]
    simp [e, h2, clD, -sMeth_ap]
  have c1 := cleanL_of clD_clean m.cs
  have c2 := cleanL_of boatD_clean m.bs
  have c3 := cleanL_of raceD_clean m.rs
  have v1 := tupV_T (o := false) (k := fun b : BtT => b.1) (v := boatD) (xs := m.bs) fun b _ => boatD_clean b
  have v2 := tupV_T (o := false) (k := fun b : RcT => b.1) (v := raceD) (xs := m.rs) fun b _ => raceD_clean b
  have f1 := frzL_of clD_frz m.cs
  rw [f_Meeting_plain, runDef_ap, show entry 4 [obj m] = [some (obj m), none, none, none] from rfl]
  simp [b_Meeting_plain, t_Meeting_plain_1, t_Meeting_plain_2, l0, g_crews, g_runs, g_limits, fTuple, c1, c2, c3, v1, v2, h4, f1, tD]
section
variable {m : Mt} {nb nr : Nat}
theorem sh_cl (g : Good nb nr m) {c : ClT} (h : c ∈ m.cs) {n : Nat} : Sh (n + 2) 8000 (clD c) := by
  have h1 := (nx_of (g.cnm c h)).sh (n := n + 1)
  have h2 : Sh (n + 1) 3900 c.2.plain := by
    have hw : ∀ w : Str, w = RH.wL ∨ w = RH.wF ∨ w = RH.wY ∨ w = RH.wM → Nx w := by
      rintro w (rfl | rfl | rfl | rfl) <;> exact ⟨by decide +kernel, by decide +kernel⟩
    have hc := g.chc c h
    cases q : c.2 with
    | level =>
      refine (sh_tup (c := 1910) (k := 1) (fun d hd => ?_) (by simp)).le (by omega)
      rw [List.mem_singleton.mp hd]
      exact (hw _ (.inl rfl)).sh.le (by omega)
    | factor i =>
      rw [q] at hc
      have hi : 1 ≤ i ∧ i ≤ 5000 := by simpa [HcOk, RH.Hc.num] using hc
      refine (sh_tup (c := 1910) (k := 2) (fun d hd => ?_) (by simp)).le (by omega)
      rcases List.mem_cons.mp hd with rfl | hd
      · exact (hw _ (.inr (.inl rfl))).sh.le (by omega)
      · rw [List.mem_singleton.mp hd]; exact sh_int (by omega) (by omega)
    | yard i =>
      rw [q] at hc
      have hi : 1 ≤ i ∧ i ≤ 5000 := by simpa [HcOk, RH.Hc.num] using hc
      refine (sh_tup (c := 1910) (k := 2) (fun d hd => ?_) (by simp)).le (by omega)
      rcases List.mem_cons.mp hd with rfl | hd
      · exact (hw _ (.inr (.inr (.inl rfl)))).sh.le (by omega)
      · rw [List.mem_singleton.mp hd]; exact sh_int (by omega) (by omega)
    | mile i =>
      rw [q] at hc
      have hi : 1 ≤ i ∧ i ≤ 5000 := by simpa [HcOk, RH.Hc.num] using hc
      refine (sh_tup (c := 1910) (k := 2) (fun d hd => ?_) (by simp)).le (by omega)
      rcases List.mem_cons.mp hd with rfl | hd
      · exact (hw _ (.inr (.inr (.inr rfl)))).sh.le (by omega)
      · rw [List.mem_singleton.mp hd]; exact sh_int (by omega) (by omega)
  refine (sh_tup (c := 3900) (k := 2) (fun d hd => ?_) (by simp)).le (by omega)
  rcases List.mem_cons.mp hd with rfl | hd
  · exact h1.le (by omega)
  · rw [List.mem_singleton.mp hd]; exact h2
theorem sh_boat (g : Good nb nr m) {b : BtT} (h : b ∈ m.bs) {n : Nat} : Sh (n + 1) 8000 (boatD b) := by
  have hc : RN.Nm b.2.1 := by
    obtain ⟨c, h1, h2⟩ := List.mem_map.mp (g.bcl b h)
    rw [← h2]; exact g.cnm c h1
  refine (sh_tup (c := 62) (k := 3) (fun d hd => ?_) (by simp)).le (by omega)
  simp only [List.mem_cons, List.not_mem_nil, or_false] at hd
  rcases hd with rfl | rfl | rfl
  · exact (nx_of (g.bnm b h)).sh
  · exact (nx_of hc).sh
  · exact (nx_of (g.bfn h)).sh
theorem nx_fleet (g : Good nb nr m) {r : RcT} (h : r ∈ m.rs) : Nx r.2.1 := by
  rcases List.mem_append.mp (g.rok r h).1 with z | z
  · obtain ⟨b, h1, h2⟩ := List.mem_map.mp z
    rw [← h2]; exact nx_of (g.bfn h1)
  · rw [List.mem_singleton.mp z]; exact nx_all
theorem sh_race (g : Good nb nr m) {r : RcT} (h : r ∈ m.rs) {n : Nat} : Sh (n + 1) 8000 (raceD r) := by
  have ok := g.rok r h
  refine (sh_tup (c := 1910) (k := 4) (fun d hd => ?_) (by simp)).le (by omega)
  simp only [List.mem_cons, List.not_mem_nil, or_false] at hd
  rcases hd with rfl | rfl | rfl | rfl
  · exact (nx_of (g.rnm r h)).sh.le (by omega)
  · exact (nx_fleet g h).sh.le (by omega)
  · exact sh_int ok.2.1 (by have := ok.2.2.1; omega)
  · exact sh_int ok.2.2.2.1 (by have := ok.2.2.2.2; omega)
theorem sh_tD (g : Good nb nr m) (hb : nb ≤ 100) (hr : nr ≤ 100) : Sh 50 4000000 (tD m) := by
  refine (sh_tup (n := 49) (c := 900000) (k := 4) (fun d hd => ?_) (by simp)).le (by omega)
  simp only [List.mem_cons, List.not_mem_nil, or_false] at hd
  have := g.c6
  have := g.bn
  have := g.rn
  have := g.d3
  rcases hd with rfl | rfl | rfl | rfl
  · refine (sh_tup (n := 48) (c := 8000) (k := 100) (fun d hd => ?_) (by rw [List.length_map]; omega)).le (by omega)
    obtain ⟨c, hc, rfl⟩ := List.mem_map.mp hd
    exact sh_cl g hc
  · refine (sh_tup (n := 48) (c := 8000) (k := 100) (fun d hd => ?_) (by rw [List.length_map]; omega)).le (by omega)
    obtain ⟨c, hc, rfl⟩ := List.mem_map.mp hd
    exact sh_boat g hc
  · refine (sh_tup (n := 48) (c := 8000) (k := 100) (fun d hd => ?_) (by rw [List.length_map]; omega)).le (by omega)
    obtain ⟨c, hc, rfl⟩ := List.mem_map.mp hd
    have := g.din c hc
    exact (sh_int (by omega) (by omega)).le (by omega)
  · refine (sh_tup (n := 48) (c := 8000) (k := 100) (fun d hd => ?_) (by rw [List.length_map]; omega)).le (by omega)
    obtain ⟨c, hc, rfl⟩ := List.mem_map.mp hd
    exact sh_race g hc
end
end RG
namespace RQ
open PySem RL
open RN (f__law_mixed)
end RQ
namespace RQ
open PySem RL RM RG L2
open RN (f__law_mixed)
inductive Pk where
  | fin (r s : Str) (t : Int) | code (r s c : Str) | cost (r s : Str) (k : Int) | help (r s h : Str) | off (r : Str) | void (o : Int)
abbrev Pp := Int × Pk
abbrev wFin : Str := "finish"
abbrev wCode : Str := "code"
abbrev wCost : Str := "cost"
abbrev wHelp : Str := "help"
abbrev wOff : Str := "off"
abbrev wVoid : Str := "void"
def ppD : Pp → D
  | (n, .fin r s t) => .tup [.int n, .str wFin, .str r, .str s, .int t]
  | (n, .code r s c) => .tup [.int n, .str wCode, .str r, .str s, .str c]
  | (n, .cost r s k) => .tup [.int n, .str wCost, .str r, .str s, .int k]
  | (n, .help r s h) => .tup [.int n, .str wHelp, .str r, .str s, .str h]
  | (n, .off r) => .tup [.int n, .str wOff, .str r]
  | (n, .void o) => .tup [.int n, .str wVoid, .int o]
section
variable {m : Mt} {nb nr : Nat}
theorem ix1 : opIx m.D (.int 1) = some (.tup (m.bs.map boatD)) := rfl
abbrev EP (m : Mt) (c n : Int) (way race ent sail far time some_ : Option D) : RL.Env := [some (.int c), some m.D, some (.int n), some (.tup (m.rs.map raceD)), way, race, ent, sail, far, time, some_]
end
end RQ
namespace RL
theorem pairs_zip {α : Type} {f : α → D} : ∀ (xs : List α) (k : Nat), pairsI k (xs.map f) = (xs.zipIdx k).map fun p => .tup [.int (p.2 : Int), f p.1]
  | [], _ => rfl
  | x :: xs, k => by
    simp only [List.map_cons, pairsI, List.zipIdx_cons, pairs_zip xs (k + 1)]
theorem enum_ints {o : Bool} {cs : List Int} : enum1 [.lst o (cs.map .int)] = some ((cs.zipIdx 0).map fun p => .tup [.int (p.2 : Int), .int p.1]) := by
  simp only [enum1, lstD_l cleanL_ints, Option.map_some, pairs_zip]
end RL
namespace RQ
open PySem RL RM RG L2
open RN (f__law_mixed)
def Pk.word : Pk → Str
  | .fin _ _ _ => wFin
  | .code _ _ _ => wCode
  | .cost _ _ _ => wCost
  | .help _ _ _ => wHelp
  | .off _ => wOff
  | .void _ => wVoid
theorem p1 (p : Pp) : opIx (ppD p) (.int 1) = some (.str p.2.word) := by
  obtain ⟨n, p⟩ := p
  cases p <;> rfl
section
variable {m : Mt} {nb nr : Nat}
end
end RQ
namespace RT
open PySem RL
def t_is_whole_0 : RL.Env → SRes := (sRet (sAnd (s1 (fIsTy "int") (sVarB 0)) (sNotV (s1 (fIsTy "bool") (sVarB 0)))))
def b_is_whole : RL.Env → SRes := t_is_whole_0
def f_is_whole : List D → FR := runDef 1 [] b_is_whole
def l_are_figures_0 : RL.Env → Res D := (sLc (sIter (sVar 0)) (.nm 3) [3] sYes (s2 oIn (sVarB 3) (sC (.str "0123456789"))))
def t_are_figures_1 : RL.Env → SRes := (sRet (sAnd (sChain opLe opLe (sVarB 1) (sCall (on1 fLenX) (sCons (sVarB 0) sNil)) (sVarB 2)) (sCall (on1 fAll) (sCons l_are_figures_0 sNil))))
def b_are_figures : RL.Env → SRes := t_are_figures_1
def f_are_figures : List D → FR := runDef 4 [] b_are_figures
def t_is_time_0 : RL.Env → SRes := (sRet (sAnd (sCallF 1 f_is_whole (sCons (sVar 0) sNil)) (sChain opLe opLe (sC (.int 0)) (sVarB 0) (sC (.int 359999)))))
def b_is_time : RL.Env → SRes := t_is_time_0
def f_is_time : List D → FR := runDef 1 [] b_is_time
def t_time_read_0 : RL.Env → SRes := (sAsg (.nm 1) true (sIf (sTest (s1 (fIsTy "str") (sVarB 0))) (sM1 fSplit (sVarB 0) (sC (.str ":"))) (sLst sNil)))
def t_time_read_1 : RL.Env → SRes := (sIfS (sOrT (sTest (s2 opNe (sCall (on1 fLenX) (sCons (sVarB 1) sNil)) (sC (.int 3)))) (sNot (sTest (sCallF 3 f_are_figures (sCons (sCl (sIx (sVarB 1) (sC (.int 0)))) (sCons (sC (.int 1)) (sCons (sC (.int 2)) sNil))))))) (sRaise "BadTime") sNext)
def t_time_read_2 : RL.Env → SRes := (sIfS (sOrT (sNot (sTest (sCallF 3 f_are_figures (sCons (sCl (sIx (sVarB 1) (sC (.int 1)))) (sCons (sC (.int 2)) (sCons (sC (.int 2)) sNil)))))) (sNot (sTest (sCallF 3 f_are_figures (sCons (sCl (sIx (sVarB 1) (sC (.int 2)))) (sCons (sC (.int 2)) (sCons (sC (.int 2)) sNil))))))) (sRaise "BadTime") sNext)
def l_time_read_3 : RL.Env → Res D := (sLc (sIter (sVar 1)) (.nm 5) [5] sYes (sCall (on1 fInt) (sCons (sVarB 5) sNil)))
def t_time_read_4 : RL.Env → SRes := (sAsg (.tp [(.nm 2), (.nm 3), (.nm 4)]) true l_time_read_3)
def t_time_read_5 : RL.Env → SRes := (sIfS (sOrT (sTest (s2 opNe (sCall (on1 fStr) (sCons (sVarB 2) sNil)) (sIx (sVarB 1) (sC (.int 0))))) (sOrT (sTest (s2 opGe (sVarB 3) (sC (.int 60)))) (sTest (s2 opGe (sVarB 4) (sC (.int 60)))))) (sRaise "BadTime") sNext)
def t_time_read_6 : RL.Env → SRes := (sRet (s2 opAdd (s2 opAdd (s2 opMul (sC (.int 3600)) (sVarB 2)) (s2 opMul (sC (.int 60)) (sVarB 3))) (sVarB 4)))
def b_time_read : RL.Env → SRes := (sThen t_time_read_0
    (sThen t_time_read_1
    (sThen t_time_read_2
    (sThen t_time_read_4
    (sThen t_time_read_5
    t_time_read_6)))))
def f_time_read : List D → FR := runDef 6 [] b_time_read
def t_need_time_0 : RL.Env → SRes := (sIfS (sNot (sTest (sCallF 1 f_is_time (sCons (sVar 0) sNil)))) (sRaise "BadTime") sNext)
def b_need_time : RL.Env → SRes := t_need_time_0
def f_need_time : List D → FR := runDef 1 [] b_need_time
def t_time_text_0 : RL.Env → SRes := (sExpr (sCallF 1 f_need_time (sCons (sVar 0) sNil)))
def t_time_text_1 : RL.Env → SRes := (sAsg (.tp [(.nm 1), (.nm 2)]) true (sCall (on2 fDivmod) (sCons (sVarB 0) (sCons (sC (.int 3600)) sNil))))
def t_time_text_2 : RL.Env → SRes := (sAsg (.tp [(.nm 3), (.nm 4)]) true (sCall (on2 fDivmod) (sCons (sVarB 2) (sCons (sC (.int 60)) sNil))))
def t_time_text_3 : RL.Env → SRes := (sRet (s2 opAdd (s2 opAdd (s2 opAdd (s2 opAdd (sCall (on1 fStr) (sCons (sVarB 1) sNil)) (sC (.str ":"))) (sM1 fZfill (sCall (on1 fStr) (sCons (sVarB 3) sNil)) (sC (.int 2)))) (sC (.str ":"))) (sM1 fZfill (sCall (on1 fStr) (sCons (sVarB 4) sNil)) (sC (.int 2)))))
def b_time_text : RL.Env → SRes := (sThen t_time_text_0
    (sThen t_time_text_1
    (sThen t_time_text_2
    t_time_text_3)))
def f_time_text : List D → FR := runDef 5 [] b_time_text
end RT
namespace RT
open PySem RL L2
theorem kits : kitB "NoneType" "int" = some false ∧ kitB "bool" "int" = some true ∧ kitB "int" "int" = some true ∧ kitB "str" "int" = some false ∧ kitB "tuple" "int" = some false ∧ kitB "list" "int" = some false ∧ kitB "dict" "int" = some false ∧
    kitB "bool" "bool" = some true ∧ kitB "int" "bool" = some false := by decide +kernel
theorem kitS : kitB "NoneType" "str" = some false ∧ kitB "bool" "str" = some false ∧ kitB "int" "str" = some false ∧ kitB "str" "str" = some true ∧ kitB "tuple" "str" = some false ∧ kitB "list" "str" = some false ∧ kitB "dict" "str" = some false := by decide +kernel
def isWhole : D → Bool
  | .int _ => true
  | _ => false
def isStr : D → Bool
  | .str _ => true
  | _ => false
theorem strTy {d : D} {t : String} (h : tyName d = some t) : fIsTy "str" d = some (.bl (isStr d)) := by
  obtain ⟨k1, k2, k3, k4, k5, k6, k7⟩ := kitS
  cases d <;> simp only [tyName, Option.some.injEq, reduceCtorEq] at h <;> simp [fIsTy, tyName, isStr, k1, k2, k3, k4, k5, k6, k7]
theorem whole_eq {d : D} {t : String} (h : tyName d = some t) : f_is_whole [d] = .ok (.bl (isWhole d)) [] := by
  obtain ⟨k1, k2, k3, k4, k5, k6, k7, k8, k9⟩ := kits
  rw [f_is_whole, runDef_ap]
  cases d <;> simp only [tyName, Option.some.injEq, reduceCtorEq] at h <;> simp [b_is_whole, t_is_whole_0, entry, fIsTy, tyName, isWhole, k1, k2, k3, k4, k5, k6, k7, k8, k9]
def isTime : D → Bool
  | .int i => decide (0 ≤ i) && decide (i ≤ 359999)
  | _ => false
theorem time_eq {d : D} {t : String} (h : tyName d = some t) (hc : d.clean = true) (hf : d.frz = d) : f_is_time [d] = .ok (.bl (isTime d)) [] := by
  have w := whole_eq h
  rw [f_is_time, runDef_ap]
  cases d with
  | int i => simp [b_is_time, t_is_time_0, entry, w, isTime, isWhole]; split <;> simp_all <;> omega
  | _ => simp [b_is_time, t_is_time_0, entry, w, isTime, isWhole, hc, hf]
abbrev bad : D := .exn "BadTime" [] []
theorem need_eq {d : D} {t : String} (h : tyName d = some t) (hc : d.clean = true) (hf : d.frz = d) : f_need_time [d] = if isTime d = true then .ok .non [] else .exc bad [] := by
  have w := time_eq h hc hf
  rw [f_need_time, runDef_ap]
  simp [b_need_time, t_need_time_0, entry, w, hc, hf]
  cases isTime d <;> simp
def two (m : Nat) : Str := ⟨#[48 + m / 10, 48 + m % 10]⟩
def num (n : Nat) : Str := Str.ofString (toString (n : Int))
theorem zf : ∀ m : Fin 60, Txt.zfill (num m.val) 2 = two m.val := by decide +kernel
theorem hun : ∀ m : Fin 60, cutS (num (100 + m.val)) (some 1) none = two m.val := by decide +kernel
theorem num2 : ∀ m : Fin 100, intText? (num m.val) = some (m.val : Int) ∧ (num m.val).cps.toList.all (fun c => decide (48 ≤ c) && decide (c ≤ 57)) = true ∧ 1 ≤ (num m.val).length ∧ (num m.val).length ≤ 2 := by decide +kernel
theorem two2 : ∀ m : Fin 60, intText? (two m.val) = some (m.val : Int) ∧ (two m.val).cps.toList.all (fun c => decide (48 ≤ c) && decide (c ≤ 57)) = true := by decide +kernel
theorem num3 : ∀ m : Fin 60, (num (100 + m.val)).length ≤ 3 := by decide +kernel
abbrev sD : Str := "0123456789"
theorem sD_eq : sD.cps.toList = [48, 49, 50, 51, 52, 53, 54, 55, 56, 57] := by decide +kernel
def fig (p : Str) : Bool := p.cps.toList.all fun c => decide (c ∈ sD.cps.toList)
theorem fig_dig {p : Str} : fig p = p.cps.toList.all (fun c => decide (48 ≤ c) && decide (c ≤ 57)) := by
  unfold fig
  rw [sD_eq]
  congr 1
  funext c
  by_cases h : 48 ≤ c ∧ c ≤ 57
  · have : c = 48 ∨ c = 49 ∨ c = 50 ∨ c = 51 ∨ c = 52 ∨ c = 53 ∨ c = 54 ∨ c = 55 ∨ c = 56 ∨ c = 57 := by omega
    simp [h.1, h.2, this]
  · have : ¬ (c = 48 ∨ c = 49 ∨ c = 50 ∨ c = 51 ∨ c = 52 ∨ c = 53 ∨ c = 54 ∨ c = 55 ∨ c = 56 ∨ c = 57) := by omega
    simp only [List.mem_cons, List.not_mem_nil, or_false, this, decide_false]
    symm
    rw [Bool.and_eq_false_iff, decide_eq_false_iff_not, decide_eq_false_iff_not]
    omega
theorem fig_int {p : Str} (h : fig p = true) (h1 : 1 ≤ p.length) (h2 : p.length ≤ 2) : ∃ n : Nat, intText? p = some (n : Int) ∧ n ≤ 99 := by
  rw [fig_dig] at h
  obtain ⟨⟨l⟩⟩ := p
  have hl : 1 ≤ l.length ∧ l.length ≤ 2 := ⟨by simpa [Str.length] using h1, by simpa [Str.length] using h2⟩
  have h' : l.all (fun c => decide (48 ≤ c) && decide (c ≤ 57)) = true := h
  have e := SX.int_S h' (by intro z; rw [z] at hl; simp at hl) (by omega)
  refine ⟨_, e, ?_⟩
  match l, hl with
  | [a], _ =>
    simp at h'
    simp [NumText.digitsVal]
    omega
  | [a, b], _ =>
    simp at h'
    simp [NumText.digitsVal]
    omega
def figsB (p : Str) (lo hi : Int) : Bool := decide (lo ≤ p.length) && (decide ((p.length : Int) ≤ hi) && fig p)
theorem bls_map : ∀ bs : List Bool, blsOf (bs.map .bl) = some bs
  | [] => rfl
  | b :: bs => by simp [blsOf, bls_map bs]
theorem figs_eq {p : Str} {lo hi : Int} (hp : p.length ≤ 1000) : f_are_figures [.str p, .int lo, .int hi] = .ok (.bl (figsB p lo hi)) [] := by
  have L : l_are_figures_0 [some (.str p), some (.int lo), some (.int hi), none] = .ok (.lst true ((p.cps.toList.map fun c => decide (c ∈ sD.cps.toList)).map .bl)) := by
    refine sLc_ok (ds := p.cps.toList.map fun c => .str ⟨#[c]⟩) (by simp) (by rw [List.length_map]; show p.cps.toList.length ≤ sizeLine; simp only [Array.length_toList]; unfold sizeLine; show p.length ≤ _; omega) ?_
    rw [List.map_map]
    refine lcRun_of fun c hc => ?_
    simp [lcOne, wipeE, Tg.set, oIn, fIn]
  have A : fAll (.lst true ((p.cps.toList.map fun c => decide (c ∈ sD.cps.toList)).map .bl)) = some (.bl (fig p)) := by
    simp only [fAll, bls_map, Option.map_some, fig, List.all_map]
    rfl
  generalize (p.cps.toList.map fun c => decide (c ∈ sD.cps.toList)) = bs at L A
  have F : fLenX (.str p) = some (.int p.length) := by
    show (if p.length ≤ sizeLine then some (D.int p.length) else none) = _
    rw [if_pos (by unfold sizeLine; omega)]
  rw [f_are_figures, runDef_ap]
  unfold b_are_figures t_are_figures_1
  rw [show entry 4 [D.str p, .int lo, .int hi] = [some (.str p), some (.int lo), some (.int hi), none] from rfl]
  simp [L, A, F, figsB]
  by_cases c1 : lo ≤ (p.length : Int)
  · by_cases c2 : (p.length : Int) ≤ hi
    · simp [c1, c2, L, A]
    · simp [c1, c2]
  · simp [c1]
def tread : List Str → Option Int
  | [p, q, r] => if figsB p 1 2 = true ∧ figsB q 2 2 = true ∧ figsB r 2 2 = true then (match intText? p, intText? q, intText? r with
    | some h, some m, some s => if Str.ofString (toString h) = p ∧ m < 60 ∧ s < 60 then some (3600 * h + 60 * m + s) else none
    | _, _, _ => none) else none
  | _ => none
abbrev lS (ps : List Str) : D := .lst false (ps.map .str)
theorem sml_nat {n : Nat} (h : n ≤ 100000) : sml (n : Int) = true := (show Bd 40 (n : Int) by unfold Bd; omega).sml (by decide)
theorem fStr_nat {n : Nat} (h : n ≤ 100000) : fStr (.int n) = some (.str (num n)) := by
  rw [fStr, if_pos (sml_nat h)]
  rfl
theorem fInt_s {p : Str} {n : Nat} (hp : p.length ≤ 640) (h : intText? p = some (n : Int)) : fInt (.str p) = some (.int n) := by
  rw [fInt, if_pos hp, h]
  rfl
abbrev tailS : RL.Env → SRes := sThen t_time_read_1 (sThen t_time_read_2 (sThen t_time_read_4 (sThen t_time_read_5 t_time_read_6)))
abbrev Et (x : D) (ps : List Str) : RL.Env := [some x, some (lS ps), none, none, none, none]
theorem tread_len {ps : List Str} (h : ps.length ≠ 3) : tread ps = none := by
  unfold tread
  split
  · simp at h
  · rfl
theorem tail_len {x : D} {ps : List Str} (h : ps.length ≠ 3) : tailS (Et x ps) = .exc bad (Et x ps) := by
  have h' : ¬ (ps.length : Int) = 3 := by omega
  have e : t_time_read_1 (Et x ps) = .exc bad (Et x ps) := by
    simp [t_time_read_1, h']
  rw [tailS, sThen_ap, e]
  rfl
theorem tail_3 {x : D} {p q r : Str} (hp : p.length ≤ 1000) (hq : q.length ≤ 1000) (hr : r.length ≤ 1000) : endF [] (tailS (Et x [p, q, r])) = (match tread [p, q, r] with | some t => .ok (.int t) [] | none => .exc bad []) := by
  have f1 := figs_eq (lo := 1) (hi := 2) hp
  have f2 := figs_eq (lo := 2) (hi := 2) hq
  have f3 := figs_eq (lo := 2) (hi := 2) hr
  by_cases c1 : figsB p 1 2 = true
  · have e1 : t_time_read_1 (Et x [p, q, r]) = .nx (Et x [p, q, r]) := by
      simp [t_time_read_1, f1, c1]
    by_cases c2 : figsB q 2 2 = true
    · by_cases c3 : figsB r 2 2 = true
      · have e2 : t_time_read_2 (Et x [p, q, r]) = .nx (Et x [p, q, r]) := by
          simp [t_time_read_2, f2, c2, f3, c3]
        have d1 := c1
        have d2 := c2
        have d3 := c3
        simp only [figsB, Bool.and_eq_true, decide_eq_true_eq] at d1 d2 d3
        obtain ⟨a, ha, ha2⟩ := fig_int d1.2.2 (by omega) (by omega)
        obtain ⟨b, hb, hb2⟩ := fig_int d2.2.2 (by omega) (by omega)
        obtain ⟨d, hd, hd2⟩ := fig_int d3.2.2 (by omega) (by omega)
        have i1 := fInt_s (by omega) ha
        have i2 := fInt_s (by omega) hb
        have i3 := fInt_s (by omega) hd
        have L : l_time_read_3 (Et x [p, q, r]) = .ok (.lst true [.int a, .int b, .int d]) := by
          have z : 3 ≤ sizeLine := by decide
          refine sLc_ok (ds := [.str p, .str q, .str r]) (by simp) z ?_
          simp [lcRun, lcOne, wipeE, Tg.set, i1, i2, i3]
        have e4 : t_time_read_4 (Et x [p, q, r]) = .nx [some x, some (lS [p, q, r]), some (.int a), some (.int b), some (.int d), none] := by
          simp [t_time_read_4, L]
        have n1 := fStr_nat (n := a) (by omega)
        have m1 := mulOk_l (i := 3600) (j := (a : Int)) (by decide) (by decide)
        have m2 := mulOk_l (i := 60) (j := (b : Int)) (by decide) (by decide)
        have e6 : t_time_read_6 [some x, some (lS [p, q, r]), some (.int a), some (.int b), some (.int d), none] = .rt (.int (3600 * a + 60 * b + d)) [some x, some (lS [p, q, r]), some (.int a), some (.int b), some (.int d), none] := by
          simp [t_time_read_6, opMul_i m1, opMul_i m2]
        have T : tread [p, q, r] = if num a = p ∧ (b : Int) < 60 ∧ (d : Int) < 60 then (some (3600 * (a : Int) + 60 * (b : Int) + (d : Int)) : Option Int) else none := by
          rw [tread, if_pos ⟨c1, c2, c3⟩, ha, hb, hd]
          rfl
        rw [T, tailS, sThen_ap, e1, andThen_nx, sThen_ap, e2, andThen_nx, sThen_ap, e4, andThen_nx, sThen_ap]
        by_cases g : num a = p ∧ (b : Int) < 60 ∧ (d : Int) < 60
        · have e5 : t_time_read_5 [some x, some (lS [p, q, r]), some (.int a), some (.int b), some (.int d), none] = .nx [some x, some (lS [p, q, r]), some (.int a), some (.int b), some (.int d), none] := by
            have g2 : ¬ (60 ≤ (b : Int)) := by omega
            have g3 : ¬ (60 ≤ (d : Int)) := by omega
            simp [t_time_read_5, n1, g.1, g2, g3]
          rw [if_pos g, e5, andThen_nx, e6]
          rfl
        · have e5 : t_time_read_5 [some x, some (lS [p, q, r]), some (.int a), some (.int b), some (.int d), none] = .exc bad [some x, some (lS [p, q, r]), some (.int a), some (.int b), some (.int d), none] := by
            by_cases g1 : num a = p
            · by_cases g2 : (60 ≤ (b : Int))
              · simp [t_time_read_5, n1, g1, g2]
              · have g3 : 60 ≤ (d : Int) := by
                  by_cases z : 60 ≤ (d : Int)
                  · exact z
                  · exact absurd ⟨g1, by omega, by omega⟩ g
                simp [t_time_read_5, n1, g1, g2, g3]
            · simp [t_time_read_5, n1, g1]
          rw [if_neg g, e5]
          rfl
      · have e2 : t_time_read_2 (Et x [p, q, r]) = .exc bad (Et x [p, q, r]) := by
          simp [t_time_read_2, f2, c2, f3, c3]
        have T : tread [p, q, r] = none := by rw [tread, if_neg fun z => c3 z.2.2]
        rw [T, tailS, sThen_ap, e1, andThen_nx, sThen_ap, e2]
        rfl
    · have e2 : t_time_read_2 (Et x [p, q, r]) = .exc bad (Et x [p, q, r]) := by
        simp [t_time_read_2, f2, c2]
      have T : tread [p, q, r] = none := by rw [tread, if_neg fun z => c2 z.2.1]
      rw [T, tailS, sThen_ap, e1, andThen_nx, sThen_ap, e2]
      rfl
  · have e1 : t_time_read_1 (Et x [p, q, r]) = .exc bad (Et x [p, q, r]) := by
      simp [t_time_read_1, f1, c1]
    have T : tread [p, q, r] = none := by rw [tread, if_neg fun z => c1 z.1]
    rw [T, tailS, sThen_ap, e1]
    rfl
theorem tail_eq {x : D} {ps : List Str} (hl : ∀ p ∈ ps, p.length ≤ 1000) : endF [] (tailS (Et x ps)) = (match tread ps with | some t => .ok (.int t) [] | none => .exc bad []) := by
  by_cases h : ps.length = 3
  · match ps, h with
    | [p, q, r], _ => exact tail_3 (hl p (by simp)) (hl q (by simp)) (hl r (by simp))
  · rw [tread_len h, tail_len h]
    rfl
theorem read_eq {x : Str} (hx : x.length ≤ 1000) (hl : ∀ p ∈ Txt.split x ":", p.length ≤ 1000) : f_time_read [.str x] = (match tread (Txt.split x ":") with | some t => .ok (.int t) [] | none => .exc bad []) := by
  have l1 : (Str.ofString ":").length = 1 := by decide +kernel
  have s := strTy (d := .str x) rfl
  have sp : fSplit x (.str ":") = some (.lst true ((Txt.split x ":").map .str)) := by
    rw [fSplit, if_pos ⟨by omega, by unfold sizeLine; omega⟩]
  have e0 : t_time_read_0 [some (.str x), none, none, none, none, none] = .nx (Et (.str x) (Txt.split x ":")) := by
    simp [t_time_read_0, s, isStr, sp]
  rw [f_time_read, runDef_ap]
  unfold b_time_read
  rw [show entry 6 [D.str x] = [some (.str x), none, none, none, none, none] from rfl, sThen_ap, e0, andThen_nx]
  exact tail_eq hl
abbrev co : Str := ":"
def ttxt (t : Nat) : Str := num (t / 3600) ++ co ++ two (t / 60 % 60) ++ co ++ two (t % 60)
theorem co_len : co.length = 1 := by decide +kernel
theorem two_len (m : Nat) : (two m).length = 2 := rfl
theorem dm {i j : Nat} (hj : 0 < j) (h : j < 1073741824) : fDivmod (.int i) (.int j) = some (.tup [.int ((i / j : Nat) : Int), .int ((i % j : Nat) : Int)]) := by
  have : 0 < (j : Int) ∧ (j : Int) < 1073741824 := by omega
  rw [fDivmod, if_pos this]
  rfl
theorem pad2 : PadOk 2 = true := by decide +kernel
theorem ttxt_len {t : Nat} (h : t ≤ 359999) : (ttxt t).length ≤ 8 := by
  have l1 := (num2 ⟨t / 3600, by omega⟩).2.2.2
  unfold ttxt
  simp only [Str.length_append, co_len, two_len]
  simp only at l1
  omega
theorem text_eq {t : Nat} (h : t ≤ 359999) : f_time_text [.int t] = .ok (.str (ttxt t)) [] := by
  have nd := need_eq (d := .int t) (t := "int") rfl rfl rfl
  have it : isTime (.int t) = true := by
    simp only [isTime, Bool.and_eq_true, decide_eq_true_eq]
    omega
  rw [if_pos it] at nd
  have d1 := dm (i := t) (j := 3600) (by decide) (by decide)
  have d2 := dm (i := t % 3600) (j := 60) (by decide) (by decide)
  have l1 : (num (t / 3600)).length ≤ 2 := (num2 ⟨t / 3600, by omega⟩).2.2.2
  have z1 : Txt.zfill (num (t / 60 % 60)) 2 = two (t / 60 % 60) := zf ⟨t / 60 % 60, by omega⟩
  have z2 : Txt.zfill (num (t % 60)) 2 = two (t % 60) := zf ⟨t % 60, by omega⟩
  have s1 := fStr_nat (n := t / 3600) (by omega)
  have s2 := fStr_nat (n := t / 60 % 60) (by omega)
  have s3 := fStr_nat (n := t % 60) (by omega)
  have m1 : t % 3600 / 60 = t / 60 % 60 := by omega
  have m2 : t % 3600 % 60 = t % 60 := by omega
  rw [m1, m2] at d2
  have t1 : fZfill (num (t / 60 % 60)) (.int 2) = some (.str (two (t / 60 % 60))) := by rw [fZfill, if_pos pad2, z1]
  have t2 : fZfill (num (t % 60)) (.int 2) = some (.str (two (t % 60))) := by rw [fZfill, if_pos pad2, z2]
  clear z1 z2 m1 m2
  unfold ttxt
  generalize t / 3600 = a at *
  generalize t / 60 % 60 = b at *
  generalize t % 60 = c at *
  generalize t % 3600 = r at *
  have a1 : opAdd (.str (num a)) (.str co) = some (.str (num a ++ co)) := opAdd_s (by rw [co_len]; unfold sizeLine; omega)
  have a2 : opAdd (.str (num a ++ co)) (.str (two b)) = some (.str (num a ++ co ++ two b)) := opAdd_s (by rw [Str.length_append, co_len, two_len]; unfold sizeLine; omega)
  have a3 : opAdd (.str (num a ++ co ++ two b)) (.str co) = some (.str (num a ++ co ++ two b ++ co)) := opAdd_s (by simp only [Str.length_append, co_len, two_len]; unfold sizeLine; omega)
  have a4 : opAdd (.str (num a ++ co ++ two b ++ co)) (.str (two c)) = some (.str (num a ++ co ++ two b ++ co ++ two c)) := opAdd_s (by simp only [Str.length_append, co_len, two_len]; unfold sizeLine; omega)
  have e0 : t_time_text_0 [some (.int t), none, none, none, none] = .nx [some (.int t), none, none, none, none] := by
    simp [t_time_text_0, nd]
  have e1 : t_time_text_1 [some (.int t), none, none, none, none] = .nx [some (.int t), some (.int a), some (.int r), none, none] := by
    have d1' : fDivmod (.int t) (.int 3600) = some (.tup [.int a, .int r]) := d1
    simp [t_time_text_1, d1']
  have e2 : t_time_text_2 [some (.int t), some (.int a), some (.int r), none, none] = .nx [some (.int t), some (.int a), some (.int r), some (.int b), some (.int c)] := by
    have d2' : fDivmod (.int r) (.int 60) = some (.tup [.int b, .int c]) := d2
    simp [t_time_text_2, d2']
  have e3 : t_time_text_3 [some (.int t), some (.int a), some (.int r), some (.int b), some (.int c)] = .rt (.str (num a ++ co ++ two b ++ co ++ two c)) [some (.int t), some (.int a), some (.int r), some (.int b), some (.int c)] := by
    simp [t_time_text_3, s1, s2, s3, t1, t2, a1, a2, a3, a4]
  rw [f_time_text, runDef_ap]
  unfold b_time_text
  rw [show entry 5 [D.int t] = [some (.int t), none, none, none, none] from rfl, sThen_ap, e0, andThen_nx, sThen_ap, e1, andThen_nx, sThen_ap, e2, andThen_nx, e3]
  rfl
theorem fig_no {p : Str} (h : p.cps.toList.all (fun c => decide (48 ≤ c) && decide (c ≤ 57)) = true) : (58 : Nat) ∉ TL.tl p := fun z => by
  have := List.all_eq_true.mp h 58 z
  simp at this
theorem split_ttxt {t : Nat} (h : t ≤ 359999) : Txt.split (ttxt t) co = [num (t / 3600), two (t / 60 % 60), two (t % 60)] := by
  have e : ttxt t = Txt.join co [num (t / 3600), two (t / 60 % 60), two (t % 60)] := by
    rw [TL.join_eq]
    show _ = num (t / 3600) ++ co ++ (two (t / 60 % 60) ++ co ++ two (t % 60))
    apply TL.ext_tl
    simp only [ttxt, TL.tl_append, List.append_assoc]
  rw [e]
  refine TL.split_join (s := 58) (S := []) (by decide +kernel) (by decide +kernel) (by simp) fun p hp => ?_
  simp only [List.mem_cons, List.not_mem_nil, or_false] at hp
  rcases hp with rfl | rfl | rfl
  · exact fig_no (num2 ⟨t / 3600, by omega⟩).2.1
  · exact fig_no (two2 ⟨t / 60 % 60, by omega⟩).2
  · exact fig_no (two2 ⟨t % 60, by omega⟩).2
theorem tread_ttxt {t : Nat} (h : t ≤ 359999) : tread (Txt.split (ttxt t) co) = some (t : Int) := by
  obtain ⟨a1, a2, a3, a4⟩ := num2 ⟨t / 3600, by omega⟩
  obtain ⟨b1, b2⟩ := two2 ⟨t / 60 % 60, by omega⟩
  obtain ⟨c1, c2⟩ := two2 ⟨t % 60, by omega⟩
  simp only at a1 a2 a3 a4 b1 b2 c1 c2
  rw [split_ttxt h, tread, if_pos, a1, b1, c1]
  · show (if num (t / 3600) = num (t / 3600) ∧ ((t / 60 % 60 : Nat) : Int) < 60 ∧ ((t % 60 : Nat) : Int) < 60 then some (3600 * ((t / 3600 : Nat) : Int) + 60 * ((t / 60 % 60 : Nat) : Int) + ((t % 60 : Nat) : Int)) else none) = _
    rw [if_pos ⟨rfl, by omega, by omega⟩]
    congr 1
    omega
  · have w {m : Nat} (hm : (two m).cps.toList.all (fun c => decide (48 ≤ c) && decide (c ≤ 57)) = true) : figsB (two m) 2 2 = true := by
      rw [← fig_dig] at hm
      rw [figsB, hm, two_len]
      rfl
    refine ⟨?_, w b2, w c2⟩
    rw [← fig_dig] at a2
    rw [figsB, a2]
    simp only [Bool.and_eq_true, decide_eq_true_eq, and_true]
    omega
theorem spl_len {S : List Nat} : ∀ {l : List Nat} {k : Nat} {acc p : List Nat}, p ∈ TL.spl S k acc l → p.length ≤ acc.length + l.length
  | [], k, acc, p, h => by
    rw [TL.spl_nil] at h
    have : p = acc := by simpa using h
    subst this
    omega
  | c :: r, 0, acc, p, h => by
    cases e : TL.pre S (c :: r) with
    | true =>
      rw [TL.spl_hit e] at h
      rcases List.mem_cons.mp h with rfl | h
      · omega
      · have := spl_len h
        simp only [List.length_nil, List.length_cons] at this ⊢
        omega
    | false =>
      rw [TL.spl_miss e] at h
      have := spl_len h
      simp only [List.length_append, List.length_cons, List.length_nil] at this ⊢
      omega
  | c :: r, k + 1, acc, p, h => by
    rw [TL.spl_pass] at h
    have h' : p ∈ TL.spl S 0 acc (r.drop k) := by simpa using h
    rw [← TL.spl_pass] at h'
    have := spl_len h'
    simp only [List.length_cons]
    omega
theorem split_len {x p : Str} (h : p ∈ Txt.split x co) : p.length ≤ x.length := by
  have hk : ¬ Builtin.Str.strKind x < Builtin.Str.strKind co := by
    have : Builtin.Str.strKind co = 1 := by decide +kernel
    rw [this]
    unfold Builtin.Str.strKind
    split <;> (try split) <;> omega
  have e := TL.split_spl x co (by decide +kernel) hk
  have hm : TL.tl p ∈ (Txt.split x co).map TL.tl := List.mem_map.mpr ⟨p, h, rfl⟩
  rw [e] at hm
  have := spl_len hm
  rw [TL.len_tl p, TL.len_tl x]
  simpa using this
end RT
namespace RR
open PySem RL
open RT (f_are_figures f_time_read)
open RG (f_meeting_of)
abbrev cs_classes_R : List Str := ["Reader"]
abbrev cs_crews_R : List Str := ["Reader"]
abbrev cs_last_R : List Str := ["Reader"]
abbrev cs_limits_R : List Str := ["Reader"]
abbrev cs_row_R : List Str := ["Reader"]
abbrev cs_runs_R : List Str := ["Reader"]
abbrev kd_ORDER : List (Str × D) := [("class", .int 0), ("boat", .int 1), ("drops", .int 2), ("race", .int 3)]
def l_is_name_0 : RL.Env → Res D := (sLc (sIter (sVar 0)) (.nm 1) [1] sYes (s2 oIn (sVarB 1) (sC (.str "abcdefghijklmnopqrstuvwxyz0123456789"))))
def t_is_name_1 : RL.Env → SRes := (sRet (sAnd (sChain opLe opLe (sC (.int 1)) (sCall (on1 fLenX) (sCons (sVarB 0) sNil)) (sC (.int 6))) (sAnd (s2 opNe (sVarB 0) (sC (.str "all"))) (sCall (on1 fAll) (sCons l_is_name_0 sNil)))))
def b_is_name : RL.Env → SRes := t_is_name_1
def f_is_name : List D → FR := runDef 2 [] b_is_name
def t_Reader___init___0 : RL.Env → SRes := (sSetF cs_classes_R "classes" false (plVar 0) (sLst sNil))
def t_Reader___init___1 : RL.Env → SRes := (sSetF cs_crews_R "crews" false (plVar 0) (sLst sNil))
def t_Reader___init___2 : RL.Env → SRes := (sSetF cs_limits_R "limits" false (plVar 0) (sLst sNil))
def t_Reader___init___3 : RL.Env → SRes := (sSetF cs_runs_R "runs" false (plVar 0) (sLst sNil))
def t_Reader___init___4 : RL.Env → SRes := (sSetF cs_last_R "last" true (plVar 0) (sC (.int 0)))
def t_Reader___init___5 : RL.Env → SRes := (sSetF cs_row_R "row" true (plVar 0) (sC (.int 0)))
def b_Reader___init__ : RL.Env → SRes := (sThen t_Reader___init___0
    (sThen t_Reader___init___1
    (sThen t_Reader___init___2
    (sThen t_Reader___init___3
    (sThen t_Reader___init___4
    t_Reader___init___5)))))
def f_Reader___init__ : List D → FR := runDef 1 [0] b_Reader___init__
def t_Reader_need_0 (xb : RL.Env → SRes) : RL.Env → SRes := (sIfS (sNot (sTest (sVar 1))) xb sNext)
def b_Reader_need (xb : RL.Env → SRes) : RL.Env → SRes := (t_Reader_need_0 xb)
def f_Reader_need (xb : RL.Env → SRes) : List D → FR := runDef 2 [] (b_Reader_need xb)
def l_Reader_fleets_0 : RL.Env → Res D := (sLc (sIter (sCl (sFld cs_crews_R "crews" (sVarB 0)))) (.nm 1) [1] sYes (sTup (sCons (sCl (sIx (sVarB 1) (sC (.int 2)))) (sCons (sC (.bl true)) sNil))))
def t_Reader_fleets_1 : RL.Env → SRes := (sRet (sCall (on1 fListX) (sCons (s1 fDict l_Reader_fleets_0) sNil)))
def b_Reader_fleets : RL.Env → SRes := t_Reader_fleets_1
def f_Reader_fleets : List D → FR := runDef 2 [] b_Reader_fleets
def t_number_in_0 : RL.Env → SRes := (sIfS (sOrT (sNot (sTest (sCallF 3 f_are_figures (sCons (sVar 0) (sCons (sC (.int 1)) (sCons (sC (.int 4)) sNil)))))) (sAndT (sTest (s2 opEq (sIx (sVarB 0) (sC (.int 0))) (sC (.str "0")))) (sTest (s2 opNe (sVarB 0) (sC (.str "0")))))) (sRet (sC .non)) sNext)
def t_number_in_1 : RL.Env → SRes := (sRet (sCall (on1 fInt) (sCons (sVarB 0) sNil)))
def b_number_in : RL.Env → SRes := (sThen t_number_in_0
    t_number_in_1)
def f_number_in : List D → FR := runDef 1 [] b_number_in
abbrev tab_need (xb : RL.Env → SRes) : List (Str × (List D → FR)) := [("Reader", (f_Reader_need xb))]
def l_Reader_need_name_0 : RL.Env → Res D := (sLc (sIter (sVar 2)) (.nm 3) [3] sYes (sCl (sIx (sVarB 3) (sC (.int 0)))))
def t_Reader_need_name_1 (xb : RL.Env → SRes) : RL.Env → SRes := (sExpr (sMeth "need" (tab_need xb) 2 (sVar 0) (sCons (sAnd (sCallF 1 f_is_name (sCons (sVar 1) sNil)) (s2 oNotIn (sVarB 1) l_Reader_need_name_0)) sNil)))
def b_Reader_need_name (xb : RL.Env → SRes) : RL.Env → SRes := (t_Reader_need_name_1 xb)
def f_Reader_need_name (xb : RL.Env → SRes) : List D → FR := runDef 4 [] (b_Reader_need_name xb)
def t_time_in_0 : RL.Env → SRes := (sAsg (.nm 1) true (sC .non))
def t_time_in_1 : RL.Env → SRes := (sAsg (.nm 1) true (sCallF 1 f_time_read (sCons (sVar 0) sNil)))
def t_time_in_2 : RL.Env → SRes := (sAsg (.nm 1) true (sC .non))
def t_time_in_3 (sb : List (Str × Bool)) : RL.Env → SRes := (sTryH [(sb, t_time_in_2)] t_time_in_1)
def b_time_in (sb : List (Str × Bool)) : RL.Env → SRes := (sThen t_time_in_0
    (sThen (t_time_in_3 sb)
    (sRet (sVar 1))))
def f_time_in (sb : List (Str × Bool)) : List D → FR := runDef 2 [] (b_time_in sb)
def t_handicap_in_0 : RL.Env → SRes := (sRet (sTup (sCons (sC (.str "level")) sNil)))
def t_handicap_in_1 : RL.Env → SRes := (sIfS (sTest (s2 opEq (sVarB 0) (sLst (sCons (sC (.str "level")) sNil)))) t_handicap_in_0 sNext)
def t_handicap_in_2 : RL.Env → SRes := (sIfS (sOrT (sTest (s2 opNe (sCall (on1 fLenX) (sCons (sVarB 0) sNil)) (sC (.int 2)))) (sTest (s2 oNotIn (sIx (sVarB 0) (sC (.int 0))) (sC (.tup [.str "factor", .str "yard", .str "mile"]))))) (sRet (sC .non)) sNext)
def t_handicap_in_3 : RL.Env → SRes := (sAsg (.nm 1) true (sCallF 1 f_number_in (sCons (sCl (sIx (sVarB 0) (sC (.int 1)))) sNil)))
def t_handicap_in_4 : RL.Env → SRes := (sIfS (sOrT (sTest (s2 opIs (sVarB 1) (sC .non))) (sNot (sTest (sChain opLe opLe (sC (.int 1)) (sVarB 1) (sC (.int 5000)))))) (sRet (sC .non)) sNext)
def t_handicap_in_5 : RL.Env → SRes := (sRet (sTup (sCons (sCl (sIx (sVarB 0) (sC (.int 0)))) (sCons (sVar 1) sNil))))
def b_handicap_in : RL.Env → SRes := (sThen t_handicap_in_1
    (sThen t_handicap_in_2
    (sThen t_handicap_in_3
    (sThen t_handicap_in_4
    t_handicap_in_5))))
def f_handicap_in : List D → FR := runDef 2 [] b_handicap_in
abbrev tab_need_name (xb : RL.Env → SRes) : List (Str × (List D → FR)) := [("Reader", (f_Reader_need_name xb))]
abbrev tab_fleets : List (Str × (List D → FR)) := [("Reader", f_Reader_fleets)]
def t_Reader_boat_line_0 (xb : RL.Env → SRes) : RL.Env → SRes := (sExpr (sViewL 0 (sMeth "need" (tab_need xb) 2 (sVar 0) (sCons (sAnd (s2 opLt (sCall (on1 fLenX) (sCons (sFld cs_crews_R "crews" (sVarB 0)) sNil)) (sC (.int 24))) (s2 opEq (sCall (on1 fLenX) (sCons (sVarB 1) sNil)) (sC (.int 3)))) sNil))))
def t_Reader_boat_line_1 (xb : RL.Env → SRes) : RL.Env → SRes := (sExpr (sViewL 0 (sMeth "need_name" (tab_need_name xb) 3 (sVar 0) (sCons (sCl (sIx (sVarB 1) (sC (.int 0)))) (sCons (sCl (sFld cs_crews_R "crews" (sVarB 0))) sNil)))))
def l_Reader_boat_line_2 : RL.Env → Res D := (sLc (sIter (sCl (sFld cs_classes_R "classes" (sVarB 0)))) (.nm 2) [2] sYes (sCl (sIx (sVarB 2) (sC (.int 0)))))
def t_Reader_boat_line_3 (xb : RL.Env → SRes) : RL.Env → SRes := (sExpr (sViewL 0 (sMeth "need" (tab_need xb) 2 (sVar 0) (sCons (sAnd (s2 oIn (sIx (sVarB 1) (sC (.int 1))) l_Reader_boat_line_2) (sCallF 1 f_is_name (sCons (sCl (sIx (sVarB 1) (sC (.int 2)))) sNil))) sNil))))
def t_Reader_boat_line_4 (xb : RL.Env → SRes) : RL.Env → SRes := (sExpr (sViewL 0 (sMeth "need" (tab_need xb) 2 (sVar 0) (sCons (sOr (s2 oIn (sIx (sVarB 1) (sC (.int 2))) (sMeth "fleets" tab_fleets 1 (sVar 0) sNil)) (s2 opLt (sCall (on1 fLenX) (sCons (sMeth "fleets" tab_fleets 1 (sVar 0) sNil) sNil)) (sC (.int 3)))) sNil))))
def t_Reader_boat_line_5 : RL.Env → SRes := (sMut mAppend (plFld cs_crews_R "crews" (plVar 0)) (sCons (sTup (sCons (sCl (sIx (sVarB 1) (sC (.int 0)))) (sCons (sCl (sIx (sVarB 1) (sC (.int 1)))) (sCons (sCl (sIx (sVarB 1) (sC (.int 2)))) sNil)))) sNil))
def b_Reader_boat_line (xb : RL.Env → SRes) : RL.Env → SRes := (sThen (t_Reader_boat_line_0 xb)
    (sThen (t_Reader_boat_line_1 xb)
    (sThen (t_Reader_boat_line_3 xb)
    (sThen (t_Reader_boat_line_4 xb)
    t_Reader_boat_line_5))))
def f_Reader_boat_line (xb : RL.Env → SRes) : List D → FR := runDef 3 [0] (b_Reader_boat_line xb)
def t_Reader_drops_line_0 (xb : RL.Env → SRes) : RL.Env → SRes := (sExpr (sViewL 0 (sMeth "need" (tab_need xb) 2 (sVar 0) (sCons (sAnd (s2 opNe (sFld cs_crews_R "crews" (sVarB 0)) (sLst sNil)) (sAnd (s2 opEq (sFld cs_limits_R "limits" (sVarB 0)) (sLst sNil)) (sChain opLe opLe (sC (.int 1)) (sCall (on1 fLenX) (sCons (sVarB 1) sNil)) (sC (.int 3))))) sNil))))
def t_Reader_drops_line_1 : RL.Env → SRes := (sAsg (.nm 3) true (sCallF 1 f_number_in (sCons (sVar 2) sNil)))
def t_Reader_drops_line_2 (xb : RL.Env → SRes) : RL.Env → SRes := (sExpr (sViewL 0 (sMeth "need" (tab_need xb) 2 (sVar 0) (sCons (sAnd (s2 opIsNot (sVarB 3) (sC .non)) (sChain opLe opLe (sC (.int 1)) (sVarB 3) (sC (.int 12)))) sNil))))
def t_Reader_drops_line_3 (xb : RL.Env → SRes) : RL.Env → SRes := (sExpr (sViewL 0 (sMeth "need" (tab_need xb) 2 (sVar 0) (sCons (sOr (s2 opEq (sFld cs_limits_R "limits" (sVarB 0)) (sLst sNil)) (s2 opLt (sIx (sFld cs_limits_R "limits" (sVarB 0)) (s1 fNeg (sC (.int 1)))) (sVarB 3))) sNil))))
def t_Reader_drops_line_4 : RL.Env → SRes := (sMut mAppend (plFld cs_limits_R "limits" (plVar 0)) (sCons (sVar 3) sNil))
def k_Reader_drops_line_5 (xb : RL.Env → SRes) : RL.Env → SRes := (sThen t_Reader_drops_line_1
    (sThen (t_Reader_drops_line_2 xb)
    (sThen (t_Reader_drops_line_3 xb)
    t_Reader_drops_line_4)))
def t_Reader_drops_line_5 (xb : RL.Env → SRes) : RL.Env → SRes := (sFor (sIter (sVar 1)) (.nm 2)
    (k_Reader_drops_line_5 xb))
def b_Reader_drops_line (xb : RL.Env → SRes) : RL.Env → SRes := (sThen (t_Reader_drops_line_0 xb)
    (t_Reader_drops_line_5 xb))
def f_Reader_drops_line (xb : RL.Env → SRes) : List D → FR := runDef 4 [0] (b_Reader_drops_line xb)
def t_Reader_class_line_0 (xb : RL.Env → SRes) : RL.Env → SRes := (sExpr (sViewL 0 (sMeth "need" (tab_need xb) 2 (sVar 0) (sCons (sAnd (s2 opLt (sCall (on1 fLenX) (sCons (sFld cs_classes_R "classes" (sVarB 0)) sNil)) (sC (.int 6))) (s2 opGt (sCall (on1 fLenX) (sCons (sVarB 1) sNil)) (sC (.int 1)))) sNil))))
def t_Reader_class_line_1 (xb : RL.Env → SRes) : RL.Env → SRes := (sExpr (sViewL 0 (sMeth "need_name" (tab_need_name xb) 3 (sVar 0) (sCons (sCl (sIx (sVarB 1) (sC (.int 0)))) (sCons (sCl (sFld cs_classes_R "classes" (sVarB 0))) sNil)))))
def t_Reader_class_line_2 : RL.Env → SRes := (sAsg (.nm 2) true (sCallF 1 f_handicap_in (sCons (sSl (sVarB 1) (sPs (sC (.int 1))) sPn) sNil)))
def t_Reader_class_line_3 (xb : RL.Env → SRes) : RL.Env → SRes := (sExpr (sViewL 0 (sMeth "need" (tab_need xb) 2 (sVar 0) (sCons (s2 opIsNot (sVarB 2) (sC .non)) sNil))))
def t_Reader_class_line_4 : RL.Env → SRes := (sMut mAppend (plFld cs_classes_R "classes" (plVar 0)) (sCons (sTup (sCons (sCl (sIx (sVarB 1) (sC (.int 0)))) (sCons (sVar 2) sNil))) sNil))
def b_Reader_class_line (xb : RL.Env → SRes) : RL.Env → SRes := (sThen (t_Reader_class_line_0 xb)
    (sThen (t_Reader_class_line_1 xb)
    (sThen t_Reader_class_line_2
    (sThen (t_Reader_class_line_3 xb)
    t_Reader_class_line_4))))
def f_Reader_class_line (xb : RL.Env → SRes) : List D → FR := runDef 3 [0] (b_Reader_class_line xb)
def t_Reader_race_line_0 (xb : RL.Env → SRes) : RL.Env → SRes := (sExpr (sViewL 0 (sMeth "need" (tab_need xb) 2 (sVar 0) (sCons (sAnd (s2 opNe (sFld cs_crews_R "crews" (sVarB 0)) (sLst sNil)) (sAnd (s2 opLt (sCall (on1 fLenX) (sCons (sFld cs_runs_R "runs" (sVarB 0)) sNil)) (sC (.int 12))) (s2 opEq (sCall (on1 fLenX) (sCons (sVarB 1) sNil)) (sC (.int 4))))) sNil))))
def t_Reader_race_line_1 (xb : RL.Env → SRes) : RL.Env → SRes := (sExpr (sViewL 0 (sMeth "need_name" (tab_need_name xb) 3 (sVar 0) (sCons (sCl (sIx (sVarB 1) (sC (.int 0)))) (sCons (sCl (sFld cs_runs_R "runs" (sVarB 0))) sNil)))))
def t_Reader_race_line_2 (xb : RL.Env → SRes) : RL.Env → SRes := (sExpr (sViewL 0 (sMeth "need" (tab_need xb) 2 (sVar 0) (sCons (s2 oIn (sIx (sVarB 1) (sC (.int 1))) (s2 opAdd (sLst (sCons (sC (.str "all")) sNil)) (sMeth "fleets" tab_fleets 1 (sVar 0) sNil))) sNil))))
def t_Reader_race_line_3 (sb : List (Str × Bool)) : RL.Env → SRes := (sAsg (.nm 2) true (sCallF 1 (f_time_in sb) (sCons (sCl (sIx (sVarB 1) (sC (.int 2)))) sNil)))
def t_Reader_race_line_4 : RL.Env → SRes := (sAsg (.nm 3) true (sCallF 1 f_number_in (sCons (sCl (sIx (sVarB 1) (sC (.int 3)))) sNil)))
def t_Reader_race_line_5 (xb : RL.Env → SRes) : RL.Env → SRes := (sExpr (sViewL 0 (sMeth "need" (tab_need xb) 2 (sVar 0) (sCons (sAnd (s2 opIsNot (sVarB 2) (sC .non)) (s2 opIsNot (sVarB 3) (sC .non))) sNil))))
def t_Reader_race_line_6 : RL.Env → SRes := (sMut mAppend (plFld cs_runs_R "runs" (plVar 0)) (sCons (sTup (sCons (sCl (sIx (sVarB 1) (sC (.int 0)))) (sCons (sCl (sIx (sVarB 1) (sC (.int 1)))) (sCons (sVar 2) (sCons (sVar 3) sNil))))) sNil))
def b_Reader_race_line (xb : RL.Env → SRes) (sb : List (Str × Bool)) : RL.Env → SRes := (sThen (t_Reader_race_line_0 xb)
    (sThen (t_Reader_race_line_1 xb)
    (sThen (t_Reader_race_line_2 xb)
    (sThen (t_Reader_race_line_3 sb)
    (sThen t_Reader_race_line_4
    (sThen (t_Reader_race_line_5 xb)
    t_Reader_race_line_6))))))
def f_Reader_race_line (xb : RL.Env → SRes) (sb : List (Str × Bool)) : List D → FR := runDef 4 [0] (b_Reader_race_line xb sb)
def t_Reader_went_0 : RL.Env → SRes := (sAsg (.nm 2) true (sCl (sIx (sVarB 1) (sC (.int 0)))))
def t_Reader_went_1 (xb : RL.Env → SRes) : RL.Env → SRes := (sExpr (sViewL 0 (sMeth "need" (tab_need xb) 2 (sVar 0) (sCons (s1 (fKdIn kd_ORDER) (sVarB 2)) sNil))))
def t_Reader_went_2 (xb : RL.Env → SRes) : RL.Env → SRes := (sExpr (sViewL 0 (sMeth "need" (tab_need xb) 2 (sVar 0) (sCons (s2 opGe (s1 (fKd kd_ORDER) (sVarB 2)) (sFld cs_last_R "last" (sVarB 0))) sNil))))
def t_Reader_went_3 : RL.Env → SRes := (sSetF cs_last_R "last" true (plVar 0) (s1 (fKd kd_ORDER) (sVarB 2)))
def t_Reader_went_4 (xb : RL.Env → SRes) : RL.Env → SRes := (sExprC (cMeth "Reader" "class_line" 2 (f_Reader_class_line xb) (plVar 0) (sCons (sSl (sVarB 1) (sPs (sC (.int 1))) sPn) sNil)))
def t_Reader_went_5 (xb : RL.Env → SRes) : RL.Env → SRes := (sExprC (cMeth "Reader" "boat_line" 2 (f_Reader_boat_line xb) (plVar 0) (sCons (sSl (sVarB 1) (sPs (sC (.int 1))) sPn) sNil)))
def t_Reader_went_6 (xb : RL.Env → SRes) : RL.Env → SRes := (sExprC (cMeth "Reader" "drops_line" 2 (f_Reader_drops_line xb) (plVar 0) (sCons (sSl (sVarB 1) (sPs (sC (.int 1))) sPn) sNil)))
def t_Reader_went_7 (xb : RL.Env → SRes) (sb : List (Str × Bool)) : RL.Env → SRes := (sExprC (cMeth "Reader" "race_line" 2 (f_Reader_race_line xb sb) (plVar 0) (sCons (sSl (sVarB 1) (sPs (sC (.int 1))) sPn) sNil)))
def t_Reader_went_8 (xb : RL.Env → SRes) (sb : List (Str × Bool)) : RL.Env → SRes := (sIfS (sTest (s2 opEq (sVarB 2) (sC (.str "drops")))) (t_Reader_went_6 xb) (t_Reader_went_7 xb sb))
def t_Reader_went_9 (xb : RL.Env → SRes) (sb : List (Str × Bool)) : RL.Env → SRes := (sIfS (sTest (s2 opEq (sVarB 2) (sC (.str "boat")))) (t_Reader_went_5 xb) (t_Reader_went_8 xb sb))
def t_Reader_went_10 (xb : RL.Env → SRes) (sb : List (Str × Bool)) : RL.Env → SRes := (sIfS (sTest (s2 opEq (sVarB 2) (sC (.str "class")))) (t_Reader_went_4 xb) (t_Reader_went_9 xb sb))
def b_Reader_went (xb : RL.Env → SRes) (sb : List (Str × Bool)) : RL.Env → SRes := (sThen t_Reader_went_0
    (sThen (t_Reader_went_1 xb)
    (sThen (t_Reader_went_2 xb)
    (sThen t_Reader_went_3
    (t_Reader_went_10 xb sb)))))
def f_Reader_went (xb : RL.Env → SRes) (sb : List (Str × Bool)) : List D → FR := runDef 3 [0] (b_Reader_went xb sb)
def t_Reader_went_through_0 : RL.Env → SRes := (sAsg (.nm 2) true (sM1 fSplit (sVarB 1) (sC (.str "\n"))))
def t_Reader_went_through_1 : RL.Env → SRes := (sSetF cs_row_R "row" true (plVar 0) (s2 opAdd (sVarB 3) (sC (.int 1))))
def t_Reader_went_through_2 (xb : RL.Env → SRes) : RL.Env → SRes := (sExpr (sViewL 0 (sMeth "need" (tab_need xb) 2 (sVar 0) (sCons (s2 oNotIn (sC (.str "\t")) (sVarB 4)) sNil))))
def l_Reader_went_through_3 : RL.Env → Res D := (sLc (sIter (sM1 fSplit (sIx (sM1 fPart (sVarB 4) (sC (.str "#"))) (sC (.int 0))) (sC (.str " ")))) (.nm 6) [6] (sTest (s2 opNe (sVarB 6) (sC (.str "")))) (sVar 6))
def t_Reader_went_through_4 : RL.Env → SRes := (sAsg (.nm 5) true l_Reader_went_through_3)
def t_Reader_went_through_5 (xb : RL.Env → SRes) (sb : List (Str × Bool)) : RL.Env → SRes := (sExprC (cMeth "Reader" "went" 2 (f_Reader_went xb sb) (plVar 0) (sCons (sVar 5) sNil)))
def t_Reader_went_through_6 (xb : RL.Env → SRes) (sb : List (Str × Bool)) : RL.Env → SRes := (sIfS (sTest (s2 opNe (sVarB 5) (sLst sNil))) (t_Reader_went_through_5 xb sb) sNext)
def k_Reader_went_through_7 (xb : RL.Env → SRes) (sb : List (Str × Bool)) : RL.Env → SRes := (sThen t_Reader_went_through_1
    (sThen (t_Reader_went_through_2 xb)
    (sThen t_Reader_went_through_4
    (t_Reader_went_through_6 xb sb))))
def t_Reader_went_through_7 (xb : RL.Env → SRes) (sb : List (Str × Bool)) : RL.Env → SRes := (sFor (sI enum1 (sCons (sVar 2) sNil)) (.tp [(.nm 3), (.nm 4)])
    (k_Reader_went_through_7 xb sb))
def t_Reader_went_through_8 : RL.Env → SRes := (sSetF cs_row_R "row" true (plVar 0) (s2 opAdd (sCall (on1 fLenX) (sCons (sVarB 2) sNil)) (sC (.int 1))))
def t_Reader_went_through_9 (xb : RL.Env → SRes) : RL.Env → SRes := (sExpr (sViewL 0 (sMeth "need" (tab_need xb) 2 (sVar 0) (sCons (s2 opNe (sFld cs_crews_R "crews" (sVarB 0)) (sLst sNil)) sNil))))
def b_Reader_went_through (xb : RL.Env → SRes) (sb : List (Str × Bool)) : RL.Env → SRes := (sThen t_Reader_went_through_0
    (sThen (t_Reader_went_through_7 xb sb)
    (sThen t_Reader_went_through_8
    (t_Reader_went_through_9 xb))))
def f_Reader_went_through (xb : RL.Env → SRes) (sb : List (Str × Bool)) : List D → FR := runDef 7 [0] (b_Reader_went_through xb sb)
def t_read_0 (xr : RL.Env → SRes) : RL.Env → SRes := (sIfS (sNot (sTest (s1 (fIsTy "str") (sVarB 0)))) xr sNext)
def t_read_1 : RL.Env → SRes := (sAsg (.nm 1) false (sMake "Reader" 1 f_Reader___init__ sNil))
def t_read_2 (xb : RL.Env → SRes) (sb : List (Str × Bool)) : RL.Env → SRes := (sExprC (cMeth "Reader" "went_through" 2 (f_Reader_went_through xb sb) (plVar 1) (sCons (sVar 0) sNil)))
def t_read_3 : RL.Env → SRes := (sRet (sCallF 1 f_meeting_of (sCons (sTup (sCons (sCall (on1 fTux) (sCons (sFld cs_classes_R "classes" (sVarB 1)) sNil)) (sCons (sCall (on1 fTuple) (sCons (sFld cs_crews_R "crews" (sVarB 1)) sNil)) (sCons (sCall (on1 fTuple) (sCons (sFld cs_limits_R "limits" (sVarB 1)) sNil)) (sCons (sCall (on1 fTuple) (sCons (sFld cs_runs_R "runs" (sVarB 1)) sNil)) sNil))))) sNil)))
def b_read (xb : RL.Env → SRes) (xr : RL.Env → SRes) (sb : List (Str × Bool)) : RL.Env → SRes := (sThen (t_read_0 xr)
    (sThen t_read_1
    (sThen (t_read_2 xb sb)
    t_read_3)))
def f_read (xb : RL.Env → SRes) (xr : RL.Env → SRes) (sb : List (Str × Bool)) : List D → FR := runDef 2 [] (b_read xb xr sb)
end RR
namespace RR
open PySem RL RM RG
open RT (figsB figs_eq fig fig_dig tread read_eq bls_map sD sD_eq f_are_figures f_time_read)
def nmB (x : Str) : Bool := decide (1 ≤ x.length) && (decide (x.length ≤ 6) && (decide (x ≠ ("all" : Str)) && x.cps.toList.all fun c => decide (c ∈ RN.signs)))
theorem sign_in {c : Nat} : oIn (.str ⟨#[c]⟩) (.str RN.sS) = some (.bl (decide (c ∈ RN.signs))) := by
  have h : (⟨#[c]⟩ : Str).cps.size = 1 := rfl
  have h2 : (⟨#[c]⟩ : Str).cps.getD 0 0 = c := rfl
  simp only [oIn, fIn, h, if_true, h2, RN.signs_eq, Option.map_some]
theorem is_name_eq {x : Str} (hx : x.length ≤ 10000) : f_is_name [.str x] = .ok (.bl (nmB x)) [] := by
  have l0 : l_is_name_0 [some (.str x), none] = .ok (.lst true (x.cps.toList.map fun c => .bl (decide (c ∈ RN.signs)))) := by
    refine lc_map (e := fun c : Nat => D.str ⟨#[c]⟩) (by simpa [Str.length] using hx) (by simp) fun c _ => ?_
    have sg : oIn (.str ⟨#[c]⟩) (.str "abcdefghijklmnopqrstuvwxyz0123456789") = some (.bl (decide (c ∈ RN.signs))) := sign_in
    simp [lcOne, wipeE, sg]
  have al : fAll (.lst true (x.cps.toList.map fun c => D.bl (decide (c ∈ RN.signs)))) = some (.bl (x.cps.toList.all fun c => decide (c ∈ RN.signs))) := by
    have e : (x.cps.toList.map fun c => D.bl (decide (c ∈ RN.signs))) = (x.cps.toList.map fun c => decide (c ∈ RN.signs)).map D.bl := by rw [List.map_map]; rfl
    rw [e]
    simp only [fAll, bls_map, Option.map_some, List.all_map]
    rfl
  have ln : fLenX (.str x) = some (.int (x.length : Int)) := by
    show (if x.length ≤ sizeLine then some (D.int x.length) else none) = _
    rw [if_pos (by unfold sizeLine; omega)]
  generalize D.lst true (x.cps.toList.map fun c => D.bl (decide (c ∈ RN.signs))) = L at *
  rw [f_is_name, runDef_ap, show entry 2 [.str x] = [some (.str x), none] from rfl]
  unfold nmB
  generalize (x.cps.toList.all fun c => decide (c ∈ RN.signs)) = q at *
  by_cases h1 : 1 ≤ x.length
  · have h1' : (1 : Int) ≤ (x.length : Int) := by omega
    by_cases h2 : x.length ≤ 6
    · have h2' : (x.length : Int) ≤ 6 := by omega
      by_cases h3 : x = ("all" : Str)
      · have nq : opNe (.str x) (.str "all") = some (.bl false) := by rw [h3]; rfl
        have d3 : decide (x ≠ ("all" : Str)) = false := by simp [h3]
        rw [d3]
        simp [b_is_name, t_is_name_1, ln, h1, h1', h2, h2', nq, -opNe_s]
      · simp [b_is_name, t_is_name_1, ln, h1, h1', h2, h2', h3, l0, al]
    · have h2' : ¬ (x.length : Int) ≤ 6 := by omega
      simp [b_is_name, t_is_name_1, ln, h1, h1', h2, h2']
  · have h1' : ¬ (1 : Int) ≤ (x.length : Int) := by omega
    simp [b_is_name, t_is_name_1, ln, h1, h1']
theorem nm_B {x : Str} (h : RN.Nm x) : nmB x = true := by
  unfold nmB
  have h1 := h.lo
  have h2 := h.hi
  have h3 := h.all
  have h4 : (x.cps.toList.all fun c => decide (c ∈ RN.signs)) = true := List.all_eq_true.mpr fun c hc => by simpa using h.sg c hc
  simp [h1, h2, h3, h4]
def numIn (x : Str) : Option Int := if figsB x 1 4 = true ∧ ¬ (x.cps.getD 0 0 = 48 ∧ x ≠ ("0" : Str)) then intText? x else none
def optD : Option Int → D
  | some i => .int i
  | none => .non
theorem fig_int4 {p : Str} (h : fig p = true) (h1 : 1 ≤ p.length) (h2 : p.length ≤ 4) : ∃ n : Nat, intText? p = some (n : Int) ∧ n ≤ 9999 := by
  rw [fig_dig] at h
  obtain ⟨⟨l⟩⟩ := p
  have hl : 1 ≤ l.length ∧ l.length ≤ 4 := ⟨by simpa [Str.length] using h1, by simpa [Str.length] using h2⟩
  have h' : l.all (fun c => decide (48 ≤ c) && decide (c ≤ 57)) = true := h
  have e := SX.int_S h' (by intro z; rw [z] at hl; simp at hl) (by omega)
  refine ⟨_, e, ?_⟩
  match l, hl with
  | [a], _ =>
    simp at h'
    simp [NumText.digitsVal]
    omega
  | [a, b], _ =>
    simp at h'
    simp [NumText.digitsVal]
    omega
  | [a, b, c], _ =>
    simp at h'
    simp [NumText.digitsVal]
    omega
  | [a, b, c, d], _ =>
    simp at h'
    simp [NumText.digitsVal]
    omega
theorem number_in_eq {x : Str} (hx : x.length ≤ 1000) : f_number_in [.str x] = .ok (optD (numIn x)) [] := by
  have fe := figs_eq (p := x) (lo := 1) (hi := 4) hx
  rw [f_number_in, runDef_ap, show entry 1 [.str x] = [some (.str x)] from rfl]
  unfold b_number_in
  cases q : figsB x 1 4 with
  | false =>
    rw [q] at fe
    have e : numIn x = none := if_neg (by simp [q])
    rw [sThen_ap, e]
    simp [t_number_in_0, fe, optD]
  | true =>
    rw [q] at fe
    have q' := q
    simp only [figsB, Bool.and_eq_true, decide_eq_true_eq] at q'
    obtain ⟨l1, l4, hf⟩ := q'
    obtain ⟨n, hn, hn2⟩ := fig_int4 hf (by omega) (by omega)
    have ix : opIx (.str x) (.int 0) = some (.str ⟨#[x.cps.getD 0 0]⟩) := by
      have z : x.length ≤ sizeLine := by unfold sizeLine; omega
      obtain ⟨⟨l⟩⟩ := x
      cases l with
      | nil => simp [Str.length] at l1
      | cons a l =>
        show (if _ then _ else _) = _
        rw [if_pos z]
        show (L2.atI (a :: l) 0).map _ = _
        rw [atI_0]
        rfl
    have z0 : ((⟨#[x.cps.getD 0 0]⟩ : Str) = ("0" : Str)) ↔ x.cps.getD 0 0 = 48 := by
      constructor
      · intro h
        have e : ((⟨#[x.cps.getD 0 0]⟩ : Str).cps.getD 0 0) = (("0" : Str).cps.getD 0 0) := congrArg (fun s : Str => s.cps.getD 0 0) h
        exact (show x.cps.getD 0 0 = _ from e).trans (by decide +kernel)
      · intro h
        rw [h]
        decide +kernel
    have fi : fInt (.str x) = some (.int n) := by
      show (if x.length ≤ 640 then _ else _) = _
      rw [if_pos (by omega), hn]
      rfl
    have un : ∀ r, (r = if figsB x 1 4 = true ∧ ¬ (x.cps.getD 0 0 = 48 ∧ x ≠ ("0" : Str)) then intText? x else none) → numIn x = r := fun r h => h.symm
    generalize x.cps.getD 0 0 = c0 at *
    generalize (⟨#[c0]⟩ : Str) = C0 at *
    by_cases a : c0 = 48
    · have a' : C0 = ("0" : Str) := z0.mpr a
      by_cases b : x = ("0" : Str)
      · have e : numIn x = some (n : Int) := un _ (by rw [if_pos ⟨q, fun h => h.2 b⟩, hn])
        rw [sThen_ap, e]
        subst b
        simp [t_number_in_0, t_number_in_1, fe, ix, a', fi, optD]
      · have e : numIn x = none := un _ (by rw [if_neg (fun h => h.2 ⟨a, b⟩)])
        rw [sThen_ap, e]
        simp [t_number_in_0, fe, ix, a', b, optD]
    · have a' : C0 ≠ ("0" : Str) := fun h => a (z0.mp h)
      have e : numIn x = some (n : Int) := un _ (by rw [if_pos ⟨q, fun h => a h.1⟩, hn])
      rw [sThen_ap, e]
      simp [t_number_in_0, t_number_in_1, fe, ix, a', fi, optD]
end RR
namespace RR
open PySem RL RM RG
open RT (tread read_eq split_len f_time_read)
theorem eqv_strs : ∀ {xs ys : List Str}, PyData.eqvAll (pyL (xs.map D.str)) (pyL (ys.map D.str)) = decide (xs = ys)
  | [], [] => by simp [pyL, PyData.eqvAll]
  | [], y :: ys => by simp [pyL, PyData.eqvAll]
  | x :: xs, [] => by simp [pyL, PyData.eqvAll]
  | x :: xs, y :: ys => by
    have ih := eqv_strs (xs := xs) (ys := ys)
    simp only [List.map_cons, pyL, PyData.eqvAll, ih, D.py, PyData.eqv]
    by_cases h : x = y
    · subst h
      by_cases h2 : xs = ys <;> simp [h2]
    · simp [h]
theorem fit_strs {o : Bool} {xs : List Str} (h : ∀ x ∈ xs, PyData.strOk x = true) : (D.lst o (xs.map .str)).fit = true := by
  unfold D.fit
  rw [show (60 : Nat) = 59 + 1 from rfl]
  simp only [fitN, List.all_map, List.all_eq_true]
  exact fun x hx => h x hx
theorem opEq_L {o o' : Bool} {xs ys : List Str} (h : ∀ x ∈ xs, PyData.strOk x = true) (h' : ∀ x ∈ ys, PyData.strOk x = true) : opEq (.lst o (xs.map .str)) (.lst o' (ys.map .str)) = some (.bl (decide (xs = ys))) := by
  have f1 := fit_strs (o := o) h
  have f2 := fit_strs (o := o') h'
  simp only [opEq, strs?, f1, f2, and_self, if_true, D.py, PyData.eqv, eqv_strs]
theorem opNe_L {o o' : Bool} {xs ys : List Str} (h : ∀ x ∈ xs, PyData.strOk x = true) (h' : ∀ x ∈ ys, PyData.strOk x = true) : opNe (.lst o (xs.map .str)) (.lst o' (ys.map .str)) = some (.bl (!decide (xs = ys))) := by
  have f1 := fit_strs (o := o) h
  have f2 := fit_strs (o := o') h'
  simp only [opNe, strs?, f1, f2, and_self, if_true, D.py, PyData.eqv, eqv_strs]
def timeIn (x : Str) : Option Int := tread (Txt.split x ":")
theorem time_in_eq {sb : List (Str × Bool)} (hs : subGo sb "BadTime" = some true) {x : Str} (hx : x.length ≤ 1000) : f_time_in sb [.str x] = .ok (optD (timeIn x)) [] := by
  have rd := read_eq hx fun p hp => Nat.le_trans (split_len hp) hx
  have e0 : t_time_in_0 [some (.str x), none] = .nx [some (.str x), some .non] := by simp [t_time_in_0]
  rw [f_time_in, runDef_ap, show entry 2 [D.str x] = [some (.str x), none] from rfl]
  unfold b_time_in timeIn
  rw [sThen_ap, e0, andThen_nx]
  cases q : tread (Txt.split x ":") with
  | none =>
    rw [q] at rd
    have e1 : t_time_in_1 [some (.str x), some .non] = .exc RT.bad [some (.str x), some .non] := by
      simp [t_time_in_1, rd]
    have e3 : t_time_in_3 sb [some (.str x), some .non] = .nx [some (.str x), some .non] := by
      rw [t_time_in_3, sTryH, e1]
      simp [hdGo, hs, t_time_in_2]
    rw [sThen_ap, e3, andThen_nx]
    simp [optD]
  | some t =>
    rw [q] at rd
    have e1 : t_time_in_1 [some (.str x), some .non] = .nx [some (.str x), some (.int t)] := by
      simp [t_time_in_1, rd]
    have e3 : t_time_in_3 sb [some (.str x), some .non] = .nx [some (.str x), some (.int t)] := by
      rw [t_time_in_3, sTryH, e1]
    rw [sThen_ap, e3, andThen_nx]
    simp [optD]
def mkHc (w : Str) (k : Int) : RH.Hc := if w = ("factor" : Str) then .factor k else if w = ("yard" : Str) then .yard k else .mile k
abbrev kinds3 : List Str := ["factor", "yard", "mile"]
def hcIn : List Str → Option RH.Hc
  | [w] => if w = ("level" : Str) then some .level else none
  | [w, n] => if w ∈ kinds3 then (match numIn n with
    | some k => if 1 ≤ k ∧ k ≤ 5000 then some (mkHc w k) else none
    | none => none) else none
  | _ => none
def optH : Option RH.Hc → D
  | some h => h.plain
  | none => .non
theorem mkHc_plain {w : Str} {k : Int} (h : w ∈ kinds3) : (mkHc w k).plain = .tup [.str w, .int k] := by
  have n1 : ("yard" : Str) ≠ "factor" := by decide +kernel
  have n2 : ("mile" : Str) ≠ "factor" := by decide +kernel
  have n3 : ("mile" : Str) ≠ "yard" := by decide +kernel
  simp only [kinds3, List.mem_cons, List.not_mem_nil, or_false] at h
  rcases h with rfl | rfl | rfl
  · simp [mkHc, RH.Hc.plain]
  · simp [mkHc, RH.Hc.plain, n1]
  · simp [mkHc, RH.Hc.plain, n2, n3]
theorem handicap_in_eq {ws : List Str} (hl : ∀ w ∈ ws, w.length ≤ 1000) (hk : ∀ w ∈ ws, PyData.strOk w = true) : f_handicap_in [.lst false (ws.map .str)] = .ok (optH (hcIn ws)) [] := by
  have h1 : 1 ≤ sizeLine := by decide
  have h2 : 2 ≤ sizeLine := by decide
  have eq := opEq_L (o := false) (o' := true) (xs := ws) (ys := ["level"]) hk (by decide +kernel)
  rw [f_handicap_in, runDef_ap, show entry 2 [D.lst false (ws.map .str)] = [some (.lst false (ws.map .str)), none] from rfl]
  unfold b_handicap_in
  by_cases q : ws = [("level" : Str)]
  · have e : hcIn ws = some .level := by rw [q]; simp [hcIn]
    have eq' : opEq (.lst false (ws.map .str)) (.lst true [.str "level"]) = some (.bl true) := eq.trans (by simp [q])
    rw [e]
    generalize D.lst false (ws.map .str) = L at *
    simp [t_handicap_in_1, t_handicap_in_0, h1, eq', optH, RH.Hc.plain]
  · have eq' : opEq (.lst false (ws.map .str)) (.lst true [.str "level"]) = some (.bl false) := eq.trans (by simp [q])
    have ln : fLenX (.lst false (ws.map .str)) = some (.int (ws.length : Int)) := by simp
    have e1 : t_handicap_in_1 [some (.lst false (ws.map .str)), none] = .nx [some (.lst false (ws.map .str)), none] := by
      generalize D.lst false (ws.map .str) = L at *
      simp [t_handicap_in_1, h1, eq']
    rw [sThen_ap, e1, andThen_nx]
    by_cases l2 : ws.length = 2
    · obtain ⟨w, n, rfl⟩ : ∃ w n, ws = [w, n] := by
        match ws, l2 with
        | [w, n], _ => exact ⟨w, n, rfl⟩
      have ni := number_in_eq (x := n) (hl n (by simp))
      have ix0 : opIx (.lst false ([w, n].map .str)) (.int 0) = some (.str w) := by simp
      have ix1 : opIx (.lst false ([w, n].map .str)) (.int 1) = some (.str n) := by simp
      have inn : oNotIn (.str w) (.tup (kinds3.map .str)) = some (.bl (!decide (w ∈ kinds3))) := by
        have := in_strsT (x := w) (xs := kinds3)
        simp only [oIn, Option.map_eq_some_iff] at this
        obtain ⟨b, hb, hb2⟩ := this
        cases hb2
        simp only [oNotIn, hb, Option.map_some]
      have inn' : oNotIn (.str w) (.tup [.str "factor", .str "yard", .str "mile"]) = some (.bl (!decide (w ∈ kinds3))) := inn
      generalize hWW : (D.lst false ([w, n].map .str)) = WW at *
      by_cases q2 : w ∈ kinds3
      · have e2 : t_handicap_in_2 [some WW, none] = .nx [some WW, none] := by
          simp [t_handicap_in_2, ln, ix0, inn', q2]
        have e3 : t_handicap_in_3 [some WW, none] = .nx [some WW, some (optD (numIn n))] := by
          have c : (optD (numIn n)).frz = optD (numIn n) := by cases numIn n <;> rfl
          simp [t_handicap_in_3, ix1, ni, c]
        rw [sThen_ap, e2, andThen_nx, sThen_ap, e3, andThen_nx]
        cases q3 : numIn n with
        | none =>
          have e : hcIn [w, n] = none := by simp only [hcIn, q2, if_true, q3]
          have is : opIs .non .non = some (.bl true) := rfl
          rw [e]
          simp [t_handicap_in_4, optD, is, optH]
        | some k =>
          have is : opIs (.int k) .non = some (.bl false) := rfl
          by_cases q4 : 1 ≤ k ∧ k ≤ 5000
          · have e : hcIn [w, n] = some (mkHc w k) := by simp only [hcIn, q2, if_true, q3, q4, and_self]
            rw [e]
            simp [t_handicap_in_4, t_handicap_in_5, optD, is, optH, q4.1, q4.2, ix0, h2, mkHc_plain q2]
          · have e : hcIn [w, n] = none := by simp only [hcIn, q2, if_true, q3, q4, if_false]
            rw [e]
            by_cases q5 : 1 ≤ k
            · have q6 : ¬ k ≤ 5000 := fun h => q4 ⟨q5, h⟩
              simp [t_handicap_in_4, optD, is, optH, q5, q6]
            · simp [t_handicap_in_4, optD, is, optH, q5]
      · have e : hcIn [w, n] = none := by simp only [hcIn, q2, if_false]
        rw [e]
        simp [t_handicap_in_2, ln, ix0, inn', q2, optH]
    · have e : hcIn ws = none := by
        match ws, q, l2 with
        | [], _, _ => rfl
        | [w], q, _ =>
          have : w ≠ ("level" : Str) := fun h => q (by rw [h])
          simp only [hcIn, this, if_false]
        | w :: n :: u :: r, _, _ => rfl
      have ne : ¬ (ws.length : Int) = 2 := by omega
      rw [e]
      generalize D.lst false (ws.map .str) = L at *
      simp [t_handicap_in_2, ln, ne, optH]
end RR
namespace RR
open PySem RL RM RG
abbrev fs6 : List Str := ["classes", "crews", "limits", "runs", "last", "row"]
structure Rs where
  cs : List ClT
  bs : List BtT
  ds : List Int
  rs : List RcT
  la : Int
  rw : Int
def rdD (o : Bool) (r : Rs) : D := .obj o "Reader" fs6 [.lst o (r.cs.map clD), .lst o (r.bs.map boatD), .lst o (r.ds.map .int), .lst o (r.rs.map raceD), .int r.la, .int r.rw]
section
variable {r : Rs} {o : Bool} {xb : RL.Env → SRes} {sb : List (Str × Bool)}
theorem rd_frz : (rdD o r).frz = rdD false r := by
  simp [rdD, D.frz, frzL, frzL_of clD_frz, frzL_of boatD_frz, frzL_of raceD_frz]
theorem rd_clean : (rdD false r).clean = true := by
  simp [rdD, D.clean, cleanL, cleanL_of clD_clean, cleanL_of boatD_clean, cleanL_of raceD_clean]
theorem ownL_of {α : Type} {f : α → D} (h : ∀ a, ownOk (f a) = true) : ∀ xs : List α, ownOkL (xs.map f) = true
  | [] => by simp [ownOkL]
  | x :: xs => by simp [ownOkL, h x, ownL_of h xs]
theorem own_cl (c : ClT) : ownOk (clD c) = true := by
  obtain ⟨n, h⟩ := c
  cases h <;> simp [clD, RH.Hc.plain, ownOk, ownOkL]
theorem own_bt (c : BtT) : ownOk (boatD c) = true := by simp [boatD, ownOk, ownOkL]
theorem own_rc (c : RcT) : ownOk (raceD c) = true := by simp [raceD, ownOk, ownOkL]
theorem own_int (c : Int) : ownOk (.int c) = true := by simp [ownOk]
theorem rd_own : ownOk (rdD o r) = true := by
  cases o <;> simp [rdD, ownOk, ownOkL, ownL_of own_cl, ownL_of own_bt, ownL_of own_int, ownL_of own_rc]
theorem gR {cs : List Str} (hc : ("Reader" : Str) ∈ cs) {f : Str} {j : Nat} (hj : ixOf fs6 f = some j) : getF cs f (rdD o r) = [D.lst o (r.cs.map clD), .lst o (r.bs.map boatD), .lst o (r.ds.map .int), .lst o (r.rs.map raceD), .int r.la, .int r.rw][j]? := by
  simp [getF, rdD, hc, hj]
theorem g_classes : getF cs_classes_R "classes" (rdD o r) = some (.lst o (r.cs.map clD)) := gR (by decide +kernel) (j := 0) (by decide +kernel)
theorem g_crewsR : getF cs_crews_R "crews" (rdD o r) = some (.lst o (r.bs.map boatD)) := gR (by decide +kernel) (j := 1) (by decide +kernel)
theorem g_limitsR : getF cs_limits_R "limits" (rdD o r) = some (.lst o (r.ds.map .int)) := gR (by decide +kernel) (j := 2) (by decide +kernel)
theorem g_runsR : getF cs_runs_R "runs" (rdD o r) = some (.lst o (r.rs.map raceD)) := gR (by decide +kernel) (j := 3) (by decide +kernel)
theorem g_last : getF cs_last_R "last" (rdD o r) = some (.int r.la) := gR (by decide +kernel) (j := 4) (by decide +kernel)
theorem view_ap {i : Nat} {S : RL.Env → Res D} {ρ : RL.Env} {v : D} (h : ρ[i]? = some (some (rdD true r))) (hs : S (ρ.set i (some (rdD false r))) = .ok v) (hv : noFrz v = true) : sViewL i S ρ = .ok v := by
  have ow := rd_own (r := r) (o := true)
  simp only [sViewL, h, ow, if_true, rd_frz, hs, hv]
theorem need_eq : f_Reader_need xb [rdD false r, .bl true] = .ok .non [] := by
  rw [f_Reader_need, runDef_ap]
  simp [b_Reader_need, t_Reader_need_0, entry]
theorem methR {x : Str} {φ : List D → FR} {n : Nat} {So : RL.Env → Res D} {Ss : RL.Env → Res (List D)} {ρ : RL.Env} {ds : List D} (hx : x ∉ fs6) (ho : So ρ = .ok (rdD false r)) (ha : Ss ρ = .ok ds) (hn : ds.length + 1 = n) : sMeth x [("Reader", φ)] n So Ss ρ = (φ (rdD false r :: frzL ds)).res := by
  have t : tabGo [(("Reader" : Str), φ)] "Reader" = some φ := by simp [tabGo]
  have e : (rdD false r).frz = rdD false r := rd_frz
  rw [sMeth_ap, ho, bind_ok]
  simp only [rdD] at e
  simp only [rdD, hx, not_false_eq_true, if_true, t, ha, bind_ok, hn, frzL_cons, e]
theorem need_m : ("need" : Str) ∉ fs6 := by decide +kernel
theorem need_name_m : ("need_name" : Str) ∉ fs6 := by decide +kernel
theorem fleetsR_m : ("fleets" : Str) ∉ fs6 := by decide +kernel
theorem need_st {S : RL.Env → Res D} {ρ : RL.Env} {i : Nat} (hi : i = 0) (h : ρ[0]? = some (some (rdD true r))) (hs : S (ρ.set 0 (some (rdD false r))) = .ok (.bl true)) : (sExpr (sViewL 0 (sMeth "need" (tab_need xb) 2 (sVar 0) (sCons S sNil)))) ρ = .nx ρ := by
  have l0 : 0 < ρ.length := (List.getElem?_eq_some_iff.mp h).1
  have v0 : (ρ.set 0 (some (rdD false r)))[0]? = some (some (rdD false r)) := by simp [l0]
  have e : sMeth "need" (tab_need xb) 2 (sVar 0) (sCons S sNil) (ρ.set 0 (some (rdD false r))) = .ok .non := by
    refine (methR (r := r) need_m (by rw [sVar_ap v0, if_pos rd_clean]) (ds := [.bl true]) (by simp [hs]) rfl).trans ?_
    simp [need_eq]
  rw [sExpr_ap, view_ap h e rfl]
  rfl
theorem need_name_eq {α : Type} {k : α → Str} {e : α → D} {rows : List α} {x : Str} (hk : ∀ a, opIx (e a) (.int 0) = some (.str (k a))) (hc : cleanL (rows.map e) = true) (hl : rows.length ≤ 1000) (hf : frzL (rows.map e) = rows.map e) (hx : x.length ≤ 1000) (hn : nmB x = true) (hr : x ∉ rows.map k) :
    f_Reader_need_name xb [rdD false r, .str x, .lst false (rows.map e)] = .ok .non [] := by
  have l0 : l_Reader_need_name_0 [some (rdD false r), some (.str x), some (.lst false (rows.map e)), none] = .ok (.lst true ((rows.map k).map .str)) := by
    rw [List.map_map]
    refine lc_map (e := e) (xs := rows) (g := fun a => D.str (k a)) (by omega) (by simp [hc]) fun a _ => ?_
    simp [lcOne, wipeE, hk]
  have nm := is_name_eq (x := x) (by omega)
  rw [hn] at nm
  have ni := notin_strs (o := true) (x := x) (xs := rows.map k)
  rw [decide_eq_false hr] at ni
  have e1 : t_Reader_need_name_1 xb [some (rdD false r), some (.str x), some (.lst false (rows.map e)), none] = .nx [some (rdD false r), some (.str x), some (.lst false (rows.map e)), none] := by
    have e : sMeth "need" (tab_need xb) 2 (sVar 0) (sCons (sAnd (sCallF 1 f_is_name (sCons (sVar 1) sNil)) (s2 oNotIn (sVarB 1) l_Reader_need_name_0)) sNil) [some (rdD false r), some (.str x), some (.lst false (rows.map e)), none] = .ok .non := by
      generalize D.lst true ((rows.map k).map .str) = L at *
      refine (methR (r := r) need_m (by simp [rd_clean]) (ds := [.bl true]) (by simp [nm, l0, ni]) rfl).trans ?_
      simp [need_eq]
    rw [t_Reader_need_name_1, sExpr_ap, e]
    rfl
  rw [f_Reader_need_name, runDef_ap, show entry 4 [rdD false r, D.str x, .lst false (rows.map e)] = [some (rdD false r), some (.str x), some (.lst false (rows.map e)), none] from rfl]
  unfold b_Reader_need_name
  rw [e1]
  rfl
theorem name_st {S T : RL.Env → Res D} {ρ : RL.Env} {α : Type} {k : α → Str} {e : α → D} {rows : List α} {x : Str} (h : ρ[0]? = some (some (rdD true r))) (hS : S (ρ.set 0 (some (rdD false r))) = .ok (.str x)) (hT : T (ρ.set 0 (some (rdD false r))) = .ok (.lst false (rows.map e)))
    (hk : ∀ a, opIx (e a) (.int 0) = some (.str (k a))) (hc : cleanL (rows.map e) = true) (hl : rows.length ≤ 1000) (hf : frzL (rows.map e) = rows.map e) (hx : x.length ≤ 1000) (hn : nmB x = true) (hr : x ∉ rows.map k) :
    (sExpr (sViewL 0 (sMeth "need_name" (tab_need_name xb) 3 (sVar 0) (sCons S (sCons T sNil))))) ρ = .nx ρ := by
  have l0 : 0 < ρ.length := (List.getElem?_eq_some_iff.mp h).1
  have v0 : (ρ.set 0 (some (rdD false r)))[0]? = some (some (rdD false r)) := by simp [l0]
  have nn := need_name_eq (xb := xb) (r := r) hk hc hl hf hx hn hr
  have e1 : sMeth "need_name" (tab_need_name xb) 3 (sVar 0) (sCons S (sCons T sNil)) (ρ.set 0 (some (rdD false r))) = .ok .non := by
    refine (methR (r := r) need_name_m (by rw [sVar_ap v0, if_pos rd_clean]) (ds := [.str x, .lst false (rows.map e)]) (by simp [hS, hT]) rfl).trans ?_
    have fz : frzL [D.str x, .lst false (rows.map e)] = [.str x, .lst false (rows.map e)] := by simp [hf]
    rw [fz, nn]
    rfl
  rw [sExpr_ap, view_ap h e1 rfl]
  rfl
def flt (r : Rs) : List Str := nub (r.bs.map fun b => b.2.2)
theorem fleetsR_eq (hb : r.bs.length ≤ 1000) : f_Reader_fleets [rdD false r] = .ok (.lst true ((flt r).map .str)) [] := by
  have h2 : 2 ≤ sizeLine := by decide
  have l0 : l_Reader_fleets_0 [some (rdD false r), none] = .ok (.lst true ((r.bs.map fun b => b.2.2).map fun x => .tup [.str x, .bl true])) := by
    rw [List.map_map]
    refine lc_map (e := boatD) (xs := r.bs) (by omega) (by simp [g_crewsR, cleanL_of boatD_clean]) fun b _ => ?_
    simp [lcOne, wipeE, boatD, h2]
  rw [f_Reader_fleets, runDef_ap]
  simp only [b_Reader_fleets, t_Reader_fleets_1, entry, sRet_ap, sCall_ap, sCons_ap, s1_ap, List.map_cons, List.map_nil, List.length_cons, List.length_nil, List.replicate, List.cons_append, List.nil_append, l0, bind_ok, dict_nub, opt_some, sNil_ap, on1_ap, list_T, stm_ok, endF_rt0]
  rfl
end
end RR
namespace RR
open PySem RL RM RG
structure Wds (ws : List Str) : Prop where
  len : ∀ w ∈ ws, w.length ≤ 1000
  ok : ∀ w ∈ ws, PyData.strOk w = true
  few : ws.length ≤ 1000
theorem Wds.tl {w : Str} {ws : List Str} (h : Wds (w :: ws)) : Wds ws := ⟨fun x hx => h.len x (List.mem_cons_of_mem _ hx), fun x hx => h.ok x (List.mem_cons_of_mem _ hx), by have := h.few; simp at this; omega⟩
abbrev wL (ws : List Str) : D := .lst false (ws.map .str)
section
variable {r : Rs} {xb : RL.Env → SRes} {sb : List (Str × Bool)} {ρ : RL.Env} {S : RL.Env → Res D}
theorem ch_R {cs : List Str} (hc : ("Reader" : Str) ∈ cs) {f : Str} {j : Nat} (hj : ixOf fs6 f = some j) {c : D} (h : [D.lst true (r.cs.map clD), .lst true (r.bs.map boatD), .lst true (r.ds.map .int), .lst true (r.rs.map raceD), .int r.la, .int r.rw][j]? = some c) :
    chFld cs f (rdD true r) = some (c, fun c' => .obj true "Reader" fs6 ([D.lst true (r.cs.map clD), .lst true (r.bs.map boatD), .lst true (r.ds.map .int), .lst true (r.rs.map raceD), .int r.la, .int r.rw].set j c')) := by
  simp only [chFld, rdD, hc, if_true, chAt, hj, Option.bind_some, h, Option.map_some]
theorem mut_R {cs : List Str} (hc : ("Reader" : Str) ∈ cs) {f : Str} {j : Nat} (hj : ixOf fs6 f = some j) {ds : List D} {d : D} (h : [D.lst true (r.cs.map clD), .lst true (r.bs.map boatD), .lst true (r.ds.map .int), .lst true (r.rs.map raceD), .int r.la, .int r.rw][j]? = some (.lst true ds)) (hl : ds.length ≤ 1000) (h0 : ρ[0]? = some (some (rdD true r))) (hS : S ρ = .ok d) :
    sMut mAppend (plFld cs f (plVar 0)) (sCons S sNil) ρ = .nx (ρ.set 0 (some (.obj true "Reader" fs6 ([D.lst true (r.cs.map clD), .lst true (r.bs.map boatD), .lst true (r.ds.map .int), .lst true (r.rs.map raceD), .int r.la, .int r.rw].set j (.lst true (ds ++ [d])))))) := by
  have lt : ds.length < sizeLine := by unfold sizeLine; omega
  have p : plFld cs f (plVar 0) ρ = .ok ⟨.lst true ds, fun d' => ρ.set 0 (some (.obj true "Reader" fs6 ([D.lst true (r.cs.map clD), .lst true (r.bs.map boatD), .lst true (r.ds.map .int), .lst true (r.rs.map raceD), .int r.la, .int r.rw].set j d')))⟩ := by
    rw [plFld_ap, plVar_ap h0, bind_ok, ch_R hc hj h]
    rfl
  rw [sMut_ap, p, stm_ok]
  simp [hS, lt]
theorem app_cs {c : ClT} (h0 : ρ[0]? = some (some (rdD true r))) (hS : S ρ = .ok (clD c)) (hl : r.cs.length ≤ 1000) : sMut mAppend (plFld cs_classes_R "classes" (plVar 0)) (sCons S sNil) ρ = .nx (ρ.set 0 (some (rdD true { r with cs := r.cs ++ [c] }))) := by
  rw [mut_R (j := 0) (by decide +kernel) (by decide +kernel) rfl (by rw [List.length_map]; exact hl) h0 hS]
  simp [rdD]
theorem app_bs {c : BtT} (h0 : ρ[0]? = some (some (rdD true r))) (hS : S ρ = .ok (boatD c)) (hl : r.bs.length ≤ 1000) : sMut mAppend (plFld cs_crews_R "crews" (plVar 0)) (sCons S sNil) ρ = .nx (ρ.set 0 (some (rdD true { r with bs := r.bs ++ [c] }))) := by
  rw [mut_R (j := 1) (by decide +kernel) (by decide +kernel) rfl (by rw [List.length_map]; exact hl) h0 hS]
  simp [rdD]
theorem app_ds {c : Int} (h0 : ρ[0]? = some (some (rdD true r))) (hS : S ρ = .ok (.int c)) (hl : r.ds.length ≤ 1000) : sMut mAppend (plFld cs_limits_R "limits" (plVar 0)) (sCons S sNil) ρ = .nx (ρ.set 0 (some (rdD true { r with ds := r.ds ++ [c] }))) := by
  rw [mut_R (j := 2) (by decide +kernel) (by decide +kernel) rfl (by rw [List.length_map]; exact hl) h0 hS]
  simp [rdD]
theorem app_rs {c : RcT} (h0 : ρ[0]? = some (some (rdD true r))) (hS : S ρ = .ok (raceD c)) (hl : r.rs.length ≤ 1000) : sMut mAppend (plFld cs_runs_R "runs" (plVar 0)) (sCons S sNil) ρ = .nx (ρ.set 0 (some (rdD true { r with rs := r.rs ++ [c] }))) := by
  rw [mut_R (j := 3) (by decide +kernel) (by decide +kernel) rfl (by rw [List.length_map]; exact hl) h0 hS]
  simp [rdD]
theorem set_la {i : Int} (h0 : ρ[0]? = some (some (rdD true r))) (hS : S ρ = .ok (.int i)) : sSetF cs_last_R "last" true (plVar 0) S ρ = .nx (ρ.set 0 (some (rdD true { r with la := i }))) := by
  have e : setF cs_last_R "last" (.int i) (rdD true r) = some (rdD true { r with la := i }) := rfl
  rw [sSetF_ap, hS, stm_ok, plVar_ap h0, stm_ok]
  simp [e]
theorem set_rw {i : Int} (h0 : ρ[0]? = some (some (rdD true r))) (hS : S ρ = .ok (.int i)) : sSetF cs_row_R "row" true (plVar 0) S ρ = .nx (ρ.set 0 (some (rdD true { r with rw := i }))) := by
  have e : setF cs_row_R "row" (.int i) (rdD true r) = some (rdD true { r with rw := i }) := rfl
  rw [sSetF_ap, hS, stm_ok, plVar_ap h0, stm_ok]
  simp [e]
def classP (r : Rs) : List Str → Option Rs
  | n :: h :: ws => if r.cs.length < 6 ∧ nmB n = true ∧ n ∉ r.cs.map (·.1) then (hcIn (h :: ws)).map fun k => { r with cs := r.cs ++ [(n, k)] } else none
  | _ => none
theorem class_eq {ws : List Str} (hw : Wds ws) {r' : Rs} (hq : classP r ws = some r') : f_Reader_class_line xb [rdD true r, wL ws] = .ok .non [rdD true r'] := by
  match ws, hw, hq with
  | n :: u :: ws, hw, hp =>
    simp only [classP] at hp
    split at hp
    · rename_i c
      obtain ⟨c1, c2, c3⟩ := c
      rw [Option.map_eq_some_iff] at hp
      obtain ⟨k, hk, rfl⟩ := hp
      have w2 := hw.tl
      have hh := handicap_in_eq w2.len w2.ok
      rw [hk] at hh
      have fw := hw.few
      have h2 : 2 ≤ sizeLine := by decide
      have l1 : fLenX (wL (n :: u :: ws)) = some (.int ((n :: u :: ws).length : Nat)) := by simp
      have ixn : opIx (wL (n :: u :: ws)) (.int 0) = some (.str n) := by simp
      have sl : opSl (wL (n :: u :: ws)) (some 1) none = some (.lst true ((u :: ws).map .str)) := by
        rw [opSl_l (by simp)]
        have := cut_n0 ((n :: u :: ws).map D.str) 1
        rw [show ((1 : Nat) : Int) = 1 from rfl] at this
        rw [this]
        rfl
      have cw : (wL (n :: u :: ws)).clean = true := by simp
      have en : entry 3 [rdD true r, wL (n :: u :: ws)] = [some (rdD true r), some (wL (n :: u :: ws)), none] := rfl
      have lg : (1 : Int) < ((n :: u :: ws).length : Nat) := by simp; omega
      generalize ((n :: u :: ws).length : Nat) = ln at *
      have fh : (D.lst true ((u :: ws).map .str)).frz = wL (u :: ws) := by rw [D.frz, frzL_strs]
      generalize hW : wL (n :: u :: ws) = W at *
      have e0 : t_Reader_class_line_0 xb [some (rdD true r), some W, none] = .nx [some (rdD true r), some W, none] := by
        have c1' : (r.cs.length : Int) < 6 := by omega
        exact need_st rfl rfl (by simp [g_classes, l1, c1', lg])
      have e1 : t_Reader_class_line_1 xb [some (rdD true r), some W, none] = .nx [some (rdD true r), some W, none] :=
        name_st (k := fun c : ClT => c.1) (e := clD) (rows := r.cs) rfl (by simp [ixn]) (by simp [g_classes, cleanL_of clD_clean]) (fun _ => rfl) (cleanL_of clD_clean _) (by omega) (frzL_of clD_frz _) (hw.len n (by simp)) c2 c3
      have e2 : t_Reader_class_line_2 [some (rdD true r), some W, none] = .nx [some (rdD true r), some W, some k.plain] := by
        generalize D.lst true ((u :: ws).map .str) = V at *
        simp [t_Reader_class_line_2, sl, fh, hh, optH]
      have is : opIsNot k.plain .non = some (.bl true) := by cases k <;> rfl
      have e3 : t_Reader_class_line_3 xb [some (rdD true r), some W, some k.plain] = .nx [some (rdD true r), some W, some k.plain] :=
        need_st rfl rfl (by simp [is])
      have e4 : t_Reader_class_line_4 [some (rdD true r), some W, some k.plain] = .nx [some (rdD true { r with cs := r.cs ++ [(n, k)] }), some W, some k.plain] :=
        app_cs (c := (n, k)) rfl (by simp [ixn, h2, clD]) (by omega)
      rw [f_Reader_class_line, runDef_ap, en]
      unfold b_Reader_class_line
      rw [sThen_ap, e0, andThen_nx, sThen_ap, e1, andThen_nx, sThen_ap, e2, andThen_nx, sThen_ap, e3, andThen_nx, e4, endF_nx1 rfl]
    · cases hp
def boatP (r : Rs) : List Str → Option Rs
  | [n, c, f] => if r.bs.length < 24 ∧ nmB n = true ∧ n ∉ r.bs.map (·.1) ∧ c ∈ r.cs.map (·.1) ∧ nmB f = true ∧ (f ∈ flt r ∨ (flt r).length < 3) then some { r with bs := r.bs ++ [(n, c, f)] } else none
  | _ => none
theorem boat_eq {ws : List Str} (hw : Wds ws) {r' : Rs} (hc : r.cs.length ≤ 1000) (hq : boatP r ws = some r') : f_Reader_boat_line xb [rdD true r, wL ws] = .ok .non [rdD true r'] := by
  match ws, hw, hq with
  | [n, c, f], hw, hp =>
    simp only [boatP] at hp
    split at hp
    · rename_i q
      obtain ⟨q1, q2, q3, q4, q5, q6⟩ := q
      cases hp
      have h3 : 3 ≤ sizeLine := by decide
      have l1 : fLenX (wL [n, c, f]) = some (.int 3) := rfl
      have i0 : opIx (wL [n, c, f]) (.int 0) = some (.str n) := by simp
      have i1 : opIx (wL [n, c, f]) (.int 1) = some (.str c) := by simp
      have i2 : opIx (wL [n, c, f]) (.int 2) = some (.str f) := by simp
      have en : entry 3 [rdD true r, wL [n, c, f]] = [some (rdD true r), some (wL [n, c, f]), none] := rfl
      have nf := is_name_eq (x := f) (by have := hw.len f (by simp); omega)
      rw [q5] at nf
      have fl := fleetsR_eq (r := r) (by omega)
      generalize wL [n, c, f] = W at *
      have e0 : t_Reader_boat_line_0 xb [some (rdD true r), some W, none] = .nx [some (rdD true r), some W, none] := by
        have c1' : (r.bs.length : Int) < 24 := by omega
        exact need_st rfl rfl (by simp [g_crewsR, l1, c1'])
      have e1 : t_Reader_boat_line_1 xb [some (rdD true r), some W, none] = .nx [some (rdD true r), some W, none] :=
        name_st (k := fun c : BtT => c.1) (e := boatD) (rows := r.bs) rfl (by simp [i0]) (by simp [g_crewsR, cleanL_of boatD_clean]) (fun _ => rfl) (cleanL_of boatD_clean _) (by omega) (frzL_of boatD_frz _) (hw.len n (by simp)) q2 q3
      have l2 : l_Reader_boat_line_2 [some (rdD false r), some W, none] = .ok (.lst true ((r.cs.map (·.1)).map .str)) := by
        rw [List.map_map]
        refine lc_map (e := clD) (xs := r.cs) (g := fun c : ClT => D.str c.1) (by omega) (by simp [g_classes, cleanL_of clD_clean]) fun b _ => ?_
        simp [lcOne, wipeE, clD]
      have ic := in_strs (o := true) (x := c) (xs := r.cs.map (·.1))
      rw [decide_eq_true q4] at ic
      have e3 : t_Reader_boat_line_3 xb [some (rdD true r), some W, none] = .nx [some (rdD true r), some W, none] := by
        generalize D.lst true ((r.cs.map (·.1)).map .str) = L at *
        exact need_st rfl rfl (by simp [i1, i2, l2, ic, nf])
      have fm : sMeth "fleets" tab_fleets 1 (sVar 0) sNil [some (rdD false r), some W, none] = .ok (.lst true ((flt r).map .str)) := by
        refine (methR (r := r) fleetsR_m (by simp [rd_clean]) (ds := []) (by simp) rfl).trans ?_
        simp [fl]
      have iff := in_strs (o := true) (x := f) (xs := flt r)
      have lf : fLenX (.lst true ((flt r).map .str)) = some (.int ((flt r).length : Nat)) := by simp
      have e4 : t_Reader_boat_line_4 xb [some (rdD true r), some W, none] = .nx [some (rdD true r), some W, none] := by
        generalize D.lst true ((flt r).map .str) = L at *
        refine need_st rfl rfl ?_
        by_cases z : f ∈ flt r
        · rw [decide_eq_true z] at iff
          simp [i2, fm, iff, -sMeth_ap]
        · rw [decide_eq_false z] at iff
          have z2 : ((flt r).length : Int) < 3 := by have := q6.resolve_left z; omega
          simp [i2, fm, iff, lf, z2, -sMeth_ap]
      have e5 : t_Reader_boat_line_5 [some (rdD true r), some W, none] = .nx [some (rdD true { r with bs := r.bs ++ [(n, c, f)] }), some W, none] :=
        app_bs (c := (n, c, f)) rfl (by simp [i0, i1, i2, h3, boatD]) (by omega)
      rw [f_Reader_boat_line, runDef_ap, en]
      unfold b_Reader_boat_line
      rw [sThen_ap, e0, andThen_nx, sThen_ap, e1, andThen_nx, sThen_ap, e3, andThen_nx, sThen_ap, e4, andThen_nx, e5, endF_nx1 rfl]
    · cases hp
end
end RR
namespace RR
open PySem RL RM RG
structure RsOk (r : Rs) : Prop where
  c6 : r.cs.length ≤ 6
  b24 : r.bs.length ≤ 24
  d3 : r.ds.length ≤ 1000
  r12 : r.rs.length ≤ 12
  bk : ∀ b ∈ r.bs, PyData.strOk b.1 = true ∧ PyData.strOk b.2.1 = true ∧ PyData.strOk b.2.2 = true
theorem ne_nil {α : Type} {f : α → D} {o o' : Bool} {xs : List α} (h : ∀ x ∈ xs, fitN 59 (f x) = true) : opNe (.lst o (xs.map f)) (.lst o' []) = some (.bl (!decide (xs = []))) ∧ opEq (.lst o (xs.map f)) (.lst o' []) = some (.bl (decide (xs = []))) := by
  have f1 : (D.lst o (xs.map f)).fit = true := by
    unfold D.fit
    rw [show (60 : Nat) = 59 + 1 from rfl]
    simp only [fitN, List.all_map, List.all_eq_true]
    exact fun x hx => h x hx
  have f2 : (D.lst o' []).fit = true := rfl
  have e : PyData.eqv (D.lst o (xs.map f)).py (D.lst o' []).py = decide (xs = []) := by
    cases xs with
    | nil => simp [D.py, pyL, PyData.eqv, PyData.eqvAll]
    | cons x xs => simp [D.py, pyL, PyData.eqv, PyData.eqvAll]
  simp only [opNe, opEq, strs?, f1, f2, and_self, if_true, e]
theorem atI_lastR {α : Type} {xs : List α} {x : α} : L2.atI (xs ++ [x]) (-1) = some x := by
  unfold L2.atI L2.ixN
  have h1 : (1 : Int) ≤ (xs.length : Int) + 1 := by omega
  have h2 : (-1 + ((xs.length : Int) + 1)).toNat = xs.length := by omega
  simp [h1, h2]
section
variable {r : Rs} {xb : RL.Env → SRes} {sb : List (Str × Bool)} {ρ : RL.Env} {S : RL.Env → Res D}
theorem RsOk.bne (h : RsOk r) {o o' : Bool} : opNe (.lst o (r.bs.map boatD)) (.lst o' []) = some (.bl (!decide (r.bs = []))) := (ne_nil (f := boatD) fun b hb => by
  obtain ⟨h1, h2, h3⟩ := h.bk b hb
  simp [boatD, fitN, h1, h2, h3]).1
def dropP (r : Rs) (w : Str) : Option Rs := match numIn w with
  | some k => if 1 ≤ k ∧ k ≤ 12 ∧ ∀ l, r.ds.getLast? = some l → l < k then some { r with ds := r.ds ++ [k] } else none
  | none => none
def dropsG (r : Rs) : List Str → Option Rs
  | [] => some r
  | w :: ws => (dropP r w).bind fun r' => dropsG r' ws
def dropsP (r : Rs) (ws : List Str) : Option Rs := if r.bs ≠ [] ∧ r.ds = [] ∧ 1 ≤ ws.length ∧ ws.length ≤ 3 then dropsG r ws else none
abbrev ED (r : Rs) (W : D) (a b : Option D) : RL.Env := [some (rdD true r), some W, a, b]
theorem drop_step {w : Str} {W : D} {b : Option D} (hw : w.length ≤ 1000) (hd : r.ds.length ≤ 1000) {r' : Rs} (h : dropP r w = some r') : ∃ b', k_Reader_drops_line_5 xb (ED r W (some (.str w)) b) = .nx (ED r' W (some (.str w)) b') := by
  have ni := number_in_eq hw
  unfold dropP at h
  split at h
  · rename_i k hk
    split at h
    · rename_i c
      obtain ⟨c1, c2, c3⟩ := c
      cases h
      rw [hk] at ni
      have e1 : t_Reader_drops_line_1 (ED r W (some (.str w)) b) = .nx (ED r W (some (.str w)) (some (.int k))) := by
        simp [t_Reader_drops_line_1, ni, optD]
      have is : opIsNot (.int k) .non = some (.bl true) := rfl
      have e2 : t_Reader_drops_line_2 xb (ED r W (some (.str w)) (some (.int k))) = .nx (ED r W (some (.str w)) (some (.int k))) :=
        need_st rfl rfl (by simp [is, c1, c2])
      have z0 : 0 ≤ sizeLine := by decide
      have eq := (ne_nil (f := D.int) (o := false) (o' := true) (xs := r.ds) fun _ _ => rfl).2
      have e3 : t_Reader_drops_line_3 xb (ED r W (some (.str w)) (some (.int k))) = .nx (ED r W (some (.str w)) (some (.int k))) := by
        refine need_st rfl rfl ?_
        rcases List.eq_nil_or_concat r.ds with z | ⟨xs, l, z⟩
        · have : decide (r.ds = []) = true := by simp [z]
          rw [this] at eq
          simp [g_limitsR, eq, z0]
        · rw [List.concat_eq_append] at z
          have : decide (r.ds = []) = false := by simp [z]
          rw [this] at eq
          have lk : l < k := c3 l (by rw [z]; simp)
          have ix : opIx (.lst false (r.ds.map .int)) (.int (-1)) = some (.int l) := by
            rw [z, List.map_append]
            exact atI_lastR
          simp [g_limitsR, eq, z0, ix, lk, -opIx_l]
      have e4 : t_Reader_drops_line_4 (ED r W (some (.str w)) (some (.int k))) = .nx (ED { r with ds := r.ds ++ [k] } W (some (.str w)) (some (.int k))) :=
        app_ds (c := k) rfl (by simp) hd
      exact ⟨_, by rw [k_Reader_drops_line_5, sThen_ap, e1, andThen_nx, sThen_ap, e2, andThen_nx, sThen_ap, e3, andThen_nx, e4]⟩
    · cases h
  · cases h
theorem dropP_len {w : Str} {r r' : Rs} (h : dropP r w = some r') : r'.ds.length = r.ds.length + 1 := by
  unfold dropP at h
  split at h
  · split at h
    · cases h; simp
    · cases h
  · cases h
theorem drops_loop {W : D} : ∀ {ws : List Str} {r r' : Rs} {a b : Option D}, (∀ w ∈ ws, w.length ≤ 1000) → r.ds.length + ws.length ≤ 1000 → dropsG r ws = some r' → ∃ a' b', forRun (.nm 2) (k_Reader_drops_line_5 xb) (ws.map .str) (ED r W a b) = .nx (ED r' W a' b')
  | [], r, r', a, b, _, _, h => by cases h; exact ⟨a, b, rfl⟩
  | w :: ws, r, r', a, b, hl, hn, h => by
    unfold dropsG at h
    rw [Option.bind_eq_some_iff] at h
    obtain ⟨r1, h1, h2⟩ := h
    obtain ⟨b1, e1⟩ := drop_step (xb := xb) (W := W) (b := b) (hl w (by simp)) (by simp at hn; omega) h1
    have l1 := dropP_len h1
    obtain ⟨a2, b2, e2⟩ := drops_loop (ws := ws) (a := some (.str w)) (b := b1) (fun x hx => hl x (List.mem_cons_of_mem _ hx)) (by simp at hn; omega) h2
    refine ⟨a2, b2, ?_⟩
    rw [List.map_cons, forRun_cons, nm_set (by simp), put_some, andThen_nx, show (ED r W a b).set 2 (some (.str w)) = ED r W (some (.str w)) b from rfl, e1, loopK_nx, e2]
theorem drops_eq' {ws : List Str} (hw : Wds ws) (ok : RsOk r) {r' : Rs} (hq : dropsP r ws = some r') : f_Reader_drops_line xb [rdD true r, wL ws] = .ok .non [rdD true r'] := by
  unfold dropsP at hq
  split at hq
  · rename_i c
    obtain ⟨c1, c2, c3, c4⟩ := c
    have z0 : 0 ≤ sizeLine := by decide
    obtain ⟨a', b', lp⟩ := drops_loop (xb := xb) (W := wL ws) (a := none) (b := none) hw.len (by rw [c2]; simp; omega) hq
    have bn := ok.bne (o := false) (o' := true)
    have : decide (r.bs = []) = false := by simp [c1]
    rw [this] at bn
    have eq := (ne_nil (f := D.int) (o := false) (o' := true) (xs := r.ds) fun _ _ => rfl).2
    have : decide (r.ds = []) = true := by simp [c2]
    rw [this] at eq
    have l1 : fLenX (wL ws) = some (.int (ws.length : Nat)) := by simp
    have c3' : (1 : Int) ≤ (ws.length : Nat) := by omega
    have c4' : ((ws.length : Nat) : Int) ≤ 3 := by omega
    have it : iterD (wL ws) = some (ws.map .str) := by simp
    have cw : (wL ws).clean = true := by simp
    have en : entry 4 [rdD true r, wL ws] = ED r (wL ws) none none := rfl
    generalize wL ws = W at *
    have e0 : t_Reader_drops_line_0 xb (ED r W none none) = .nx (ED r W none none) :=
      need_st rfl rfl (by simp [g_crewsR, g_limitsR, bn, eq, l1, c3', c4', z0])
    have e5 : t_Reader_drops_line_5 xb (ED r W none none) = .nx (ED r' W a' b') := by
      rw [t_Reader_drops_line_5, sFor_ap]
      have : sIter (sVar 1) (ED r W none none) = .ok (ws.map .str) := by simp [cw, it]
      rw [this, stm_ok, lp]
    rw [f_Reader_drops_line, runDef_ap, en]
    unfold b_Reader_drops_line
    rw [sThen_ap, e0, andThen_nx, e5, endF_nx1 rfl]
  · cases hq
def raceP (r : Rs) : List Str → Option Rs
  | [n, f, t, d] => if r.bs ≠ [] ∧ r.rs.length < 12 ∧ nmB n = true ∧ n ∉ r.rs.map (·.1) ∧ (f = ("all" : Str) ∨ f ∈ flt r) then (match timeIn t, numIn d with
    | some t, some d => some { r with rs := r.rs ++ [(n, f, t, d)] }
    | _, _ => none) else none
  | _ => none
theorem race_eq' (hs : subGo sb "BadTime" = some true) {ws : List Str} (hw : Wds ws) (ok : RsOk r) {r' : Rs} (hq : raceP r ws = some r') : f_Reader_race_line xb sb [rdD true r, wL ws] = .ok .non [rdD true r'] := by
  match ws, hw, hq with
  | [n, f, t, d], hw, hp =>
    simp only [raceP] at hp
    split at hp
    · rename_i q
      obtain ⟨q1, q2, q3, q4, q5⟩ := q
      have b24 := ok.b24
      have r12 := ok.r12
      split at hp
      · rename_i tt dd h1 h2
        cases hp
        have h4 : 4 ≤ sizeLine := by decide
        have s1 : 1 ≤ sizeLine := by decide
        have z0 : 0 ≤ sizeLine := by decide
        have l1 : fLenX (wL [n, f, t, d]) = some (.int 4) := rfl
        have i0 : opIx (wL [n, f, t, d]) (.int 0) = some (.str n) := by simp
        have i1 : opIx (wL [n, f, t, d]) (.int 1) = some (.str f) := by simp
        have i2 : opIx (wL [n, f, t, d]) (.int 2) = some (.str t) := by simp
        have i3 : opIx (wL [n, f, t, d]) (.int 3) = some (.str d) := by simp
        have en : entry 4 [rdD true r, wL [n, f, t, d]] = [some (rdD true r), some (wL [n, f, t, d]), none, none] := rfl
        have ti := time_in_eq hs (x := t) (hw.len t (by simp))
        have ni := number_in_eq (x := d) (hw.len d (by simp))
        rw [h1] at ti
        rw [h2] at ni
        have fl := fleetsR_eq (r := r) (by omega)
        have bn := ok.bne (o := false) (o' := true)
        have : decide (r.bs = []) = false := by simp [q1]
        rw [this] at bn
        generalize wL [n, f, t, d] = W at *
        have e0 : t_Reader_race_line_0 xb [some (rdD true r), some W, none, none] = .nx [some (rdD true r), some W, none, none] := by
          have c1' : (r.rs.length : Int) < 12 := by omega
          exact need_st rfl rfl (by simp [g_crewsR, g_runsR, l1, c1', bn, z0])
        have e1 : t_Reader_race_line_1 xb [some (rdD true r), some W, none, none] = .nx [some (rdD true r), some W, none, none] :=
          name_st (k := fun c : RcT => c.1) (e := raceD) (rows := r.rs) rfl (by simp [i0]) (by simp [g_runsR, cleanL_of raceD_clean]) (fun _ => rfl) (cleanL_of raceD_clean _) (by omega) (frzL_of raceD_frz _) (hw.len n (by simp)) q3 q4
        have fm : sMeth "fleets" tab_fleets 1 (sVar 0) sNil [some (rdD false r), some W, none, none] = .ok (.lst true ((flt r).map .str)) := by
          refine (methR (r := r) fleetsR_m (by simp [rd_clean]) (ds := []) (by simp) rfl).trans ?_
          simp [fl]
        have fll : (flt r).length ≤ 24 := Nat.le_trans nubA_len (by simpa using b24)
        have ap : opAdd (.lst true [.str "all"]) (.lst true ((flt r).map .str)) = some (.lst true ((("all" : Str) :: flt r).map .str)) := by
          rw [opAdd_l (by simp) cleanL_strs (by simp [sizeLine]; omega)]
          rfl
        have iff := in_strs (o := true) (x := f) (xs := ("all" : Str) :: flt r)
        rw [decide_eq_true (by simpa using q5)] at iff
        have e2 : t_Reader_race_line_2 xb [some (rdD true r), some W, none, none] = .nx [some (rdD true r), some W, none, none] := by
          generalize D.lst true ((("all" : Str) :: flt r).map .str) = L at *
          generalize D.lst true ((flt r).map .str) = L' at *
          exact need_st rfl rfl (by simp [i1, fm, ap, iff, s1, -sMeth_ap])
        have e3 : t_Reader_race_line_3 sb [some (rdD true r), some W, none, none] = .nx [some (rdD true r), some W, some (.int tt), none] := by
          simp [t_Reader_race_line_3, i2, ti, optD]
        have e4 : t_Reader_race_line_4 [some (rdD true r), some W, some (.int tt), none] = .nx [some (rdD true r), some W, some (.int tt), some (.int dd)] := by
          simp [t_Reader_race_line_4, i3, ni, optD]
        have is : ∀ k : Int, opIsNot (.int k) .non = some (.bl true) := fun _ => rfl
        have e5 : t_Reader_race_line_5 xb [some (rdD true r), some W, some (.int tt), some (.int dd)] = .nx [some (rdD true r), some W, some (.int tt), some (.int dd)] :=
          need_st rfl rfl (by simp [is])
        have e6 : t_Reader_race_line_6 [some (rdD true r), some W, some (.int tt), some (.int dd)] = .nx [some (rdD true { r with rs := r.rs ++ [(n, f, tt, dd)] }), some W, some (.int tt), some (.int dd)] :=
          app_rs (c := (n, f, tt, dd)) rfl (by simp [i0, i1, h4, raceD]) (by omega)
        rw [f_Reader_race_line, runDef_ap, en]
        unfold b_Reader_race_line
        rw [sThen_ap, e0, andThen_nx, sThen_ap, e1, andThen_nx, sThen_ap, e2, andThen_nx, sThen_ap, e3, andThen_nx, sThen_ap, e4, andThen_nx, sThen_ap, e5, andThen_nx, e6, endF_nx1 rfl]
      · cases hp
    · cases hp
end
end RR
namespace RR
open PySem RL RM RG
section
variable {r : Rs} {xb xr : RL.Env → SRes} {sb : List (Str × Bool)} {ρ : RL.Env} {S : RL.Env → Res D}
def ordOf (w : Str) : Option Int := if w = ("class" : Str) then some 0 else if w = ("boat" : Str) then some 1 else if w = ("drops" : Str) then some 2 else if w = ("race" : Str) then some 3 else none
theorem ord_look (w : Str) : kd_ORDER.lookup w = (ordOf w).map .int := by
  unfold ordOf
  simp only [kd_ORDER, List.lookup_cons, List.lookup_nil]
  by_cases h1 : w = ("class" : Str)
  · have : (w == ("class" : Str)) = true := by simp [h1]
    rw [this, if_pos h1]; rfl
  · have n1 : (w == ("class" : Str)) = false := by simpa using h1
    rw [n1, if_neg h1]
    by_cases h2 : w = ("boat" : Str)
    · have : (w == ("boat" : Str)) = true := by simp [h2]
      rw [this, if_pos h2]; rfl
    · have n2 : (w == ("boat" : Str)) = false := by simpa using h2
      rw [n2, if_neg h2]
      by_cases h3 : w = ("drops" : Str)
      · have : (w == ("drops" : Str)) = true := by simp [h3]
        rw [this, if_pos h3]; rfl
      · have n3 : (w == ("drops" : Str)) = false := by simpa using h3
        rw [n3, if_neg h3]
        by_cases h4 : w = ("race" : Str)
        · have : (w == ("race" : Str)) = true := by simp [h4]
          rw [this, if_pos h4]; rfl
        · have n4 : (w == ("race" : Str)) = false := by simpa using h4
          rw [n4, if_neg h4]; rfl
def lineP (r : Rs) (w : Str) (ws : List Str) : Option Rs := if w = ("class" : Str) then classP r ws else if w = ("boat" : Str) then boatP r ws else if w = ("drops" : Str) then dropsP r ws else raceP r ws
def wentP (r : Rs) : List Str → Option Rs
  | w :: ws => match ordOf w with
    | some k => if r.la ≤ k then lineP { r with la := k } w ws else none
    | none => none
  | [] => none
theorem cM_ap {m : Str} {φ : List D → FR} {n i : Nat} {Ss : RL.Env → Res (List D)} {ds : List D} {r' : Rs} (hm : m ∉ fs6) (h0 : ρ[i]? = some (some (rdD true r))) (hs : Ss ρ = .ok ds) (hn : ds.length + 1 = n) (hφ : φ (rdD true r :: frzL ds) = .ok .non [rdD true r']) :
    sExprC (cMeth "Reader" m n φ (plVar i) Ss) ρ = .nx (ρ.set i (some (rdD true r'))) := by
  have e : cMeth "Reader" m n φ (plVar i) Ss ρ = .ok .non (ρ.set i (some (rdD true r'))) := by
    unfold cMeth
    rw [plVar_ap h0]
    simp only [rdD] at hφ
    simp only [rdD, hm, not_false_eq_true, and_self, if_true, hs, hn, hφ]
  rw [sExprC, e]
theorem m_class : ("class_line" : Str) ∉ fs6 := by decide +kernel
theorem m_boat : ("boat_line" : Str) ∉ fs6 := by decide +kernel
theorem m_drops : ("drops_line" : Str) ∉ fs6 := by decide +kernel
theorem m_race : ("race_line" : Str) ∉ fs6 := by decide +kernel
theorem m_went : ("went" : Str) ∉ fs6 := by decide +kernel
theorem m_through : ("went_through" : Str) ∉ fs6 := by decide +kernel
theorem went_eq (hs : subGo sb "BadTime" = some true) {ws : List Str} (hw : Wds ws) (ok : RsOk r) {r' : Rs} (hq : wentP r ws = some r') : f_Reader_went xb sb [rdD true r, wL ws] = .ok .non [rdD true r'] := by
  match ws, hw, hq with
  | w :: ws, hw, hp =>
    simp only [wentP] at hp
    split at hp
    · rename_i k hk
      split at hp
      · rename_i lk
        have w2 := hw.tl
        have ol := ord_look w
        rw [hk] at ol
        have i0 : opIx (wL (w :: ws)) (.int 0) = some (.str w) := by simp
        have sl : opSl (wL (w :: ws)) (some 1) none = some (.lst true (ws.map .str)) := by
          rw [opSl_l (by simp)]
          have := cut_n0 ((w :: ws).map D.str) 1
          rw [show ((1 : Nat) : Int) = 1 from rfl] at this
          rw [this]
          rfl
        have fh : frzL [D.lst true (ws.map .str)] = [wL ws] := by simp
        have en : entry 3 [rdD true r, wL (w :: ws)] = [some (rdD true r), some (wL (w :: ws)), none] := rfl
        generalize wL (w :: ws) = W at *
        have kin : fKdIn kd_ORDER (.str w) = some (.bl true) := by simp only [fKdIn, ol, Option.map_some, Option.isSome_some]
        have kd : fKd kd_ORDER (.str w) = some (.int k) := by simp only [fKd, ol, Option.map_some]
        have e0 : t_Reader_went_0 [some (rdD true r), some W, none] = .nx [some (rdD true r), some W, some (.str w)] := by
          simp [t_Reader_went_0, i0]
        have e1 : t_Reader_went_1 xb [some (rdD true r), some W, some (.str w)] = .nx [some (rdD true r), some W, some (.str w)] :=
          need_st rfl rfl (by simp [kin, -fKdIn])
        have e2 : t_Reader_went_2 xb [some (rdD true r), some W, some (.str w)] = .nx [some (rdD true r), some W, some (.str w)] :=
          need_st rfl rfl (by simp [kd, g_last, lk, -fKd])
        have e3 : t_Reader_went_3 [some (rdD true r), some W, some (.str w)] = .nx [some (rdD true { r with la := k }), some W, some (.str w)] :=
          set_la rfl (by simp [kd, -fKd])
        have ss : ∀ q : Rs, (sCons (sSl (sVarB 1) (sPs (sC (.int 1))) sPn) sNil) [some (rdD true q), some W, some (.str w)] = .ok [.lst true (ws.map .str)] := by
          intro q
          simp [sl]
        have ok1 : RsOk { r with la := k } := ⟨ok.c6, ok.b24, ok.d3, ok.r12, ok.bk⟩
        have e10 : t_Reader_went_10 xb sb [some (rdD true { r with la := k }), some W, some (.str w)] = .nx [some (rdD true r'), some W, some (.str w)] := by
          unfold lineP at hp
          by_cases h1 : w = ("class" : Str)
          · rw [if_pos h1] at hp
            have f := class_eq (xb := xb) w2 hp
            rw [← fh] at f
            have := cM_ap (ρ := [some (rdD true { r with la := k }), some W, some (.str w)]) (i := 0) m_class rfl (ss _) rfl f
            rw [t_Reader_went_10, sIfS_ap]
            have t : sTest (s2 opEq (sVarB 2) (sC (.str "class"))) [some (rdD true { r with la := k }), some W, some (.str w)] = .ok true := by simp [h1]
            rw [t, stm_ok, if_pos rfl]
            exact this
          · rw [if_neg h1] at hp
            rw [t_Reader_went_10, sIfS_ap]
            have t : sTest (s2 opEq (sVarB 2) (sC (.str "class"))) [some (rdD true { r with la := k }), some W, some (.str w)] = .ok false := by simp [h1]
            rw [t, stm_ok, if_neg (by simp), t_Reader_went_9, sIfS_ap]
            by_cases h2 : w = ("boat" : Str)
            · rw [if_pos h2] at hp
              have f := boat_eq (xb := xb) w2 (by have := ok1.c6; omega) hp
              rw [← fh] at f
              have := cM_ap (ρ := [some (rdD true { r with la := k }), some W, some (.str w)]) (i := 0) m_boat rfl (ss _) rfl f
              have t : sTest (s2 opEq (sVarB 2) (sC (.str "boat"))) [some (rdD true { r with la := k }), some W, some (.str w)] = .ok true := by simp [h2]
              rw [t, stm_ok, if_pos rfl]
              exact this
            · rw [if_neg h2] at hp
              have t : sTest (s2 opEq (sVarB 2) (sC (.str "boat"))) [some (rdD true { r with la := k }), some W, some (.str w)] = .ok false := by simp [h2]
              rw [t, stm_ok, if_neg (by simp), t_Reader_went_8, sIfS_ap]
              by_cases h3 : w = ("drops" : Str)
              · rw [if_pos h3] at hp
                have f := drops_eq' (xb := xb) w2 ok1 hp
                rw [← fh] at f
                have := cM_ap (ρ := [some (rdD true { r with la := k }), some W, some (.str w)]) (i := 0) m_drops rfl (ss _) rfl f
                have t : sTest (s2 opEq (sVarB 2) (sC (.str "drops"))) [some (rdD true { r with la := k }), some W, some (.str w)] = .ok true := by simp [h3]
                rw [t, stm_ok, if_pos rfl]
                exact this
              · rw [if_neg h3] at hp
                have f := race_eq' (xb := xb) hs w2 ok1 hp
                rw [← fh] at f
                have := cM_ap (ρ := [some (rdD true { r with la := k }), some W, some (.str w)]) (i := 0) m_race rfl (ss _) rfl f
                have t : sTest (s2 opEq (sVarB 2) (sC (.str "drops"))) [some (rdD true { r with la := k }), some W, some (.str w)] = .ok false := by simp [h3]
                rw [t, stm_ok, if_neg (by simp)]
                exact this
        rw [f_Reader_went, runDef_ap, en]
        unfold b_Reader_went
        rw [sThen_ap, e0, andThen_nx, sThen_ap, e1, andThen_nx, sThen_ap, e2, andThen_nx, sThen_ap, e3, andThen_nx, e10, endF_nx1 rfl]
      · cases hp
    · cases hp
theorem lineP_ok {ws : List Str} (hw : Wds ws) {w : Str} (ok : RsOk r) {r' : Rs} (h : lineP r w ws = some r') : RsOk r' := by
  unfold lineP at h
  split at h
  · match ws, hw, h with
    | n :: u :: ws, hw, h =>
      simp only [classP] at h
      split at h
      · rename_i c
        rw [Option.map_eq_some_iff] at h
        obtain ⟨k, _, rfl⟩ := h
        exact ⟨by simp; omega, ok.b24, ok.d3, ok.r12, ok.bk⟩
      · cases h
  · split at h
    · match ws, hw, h with
      | [n, c, f], hw, h =>
        simp only [boatP] at h
        split at h
        · rename_i q
          cases h
          refine ⟨ok.c6, by simp; omega, ok.d3, ok.r12, fun b hb => ?_⟩
          rcases List.mem_append.mp hb with z | z
          · exact ok.bk b z
          · rw [List.mem_singleton.mp z]
            exact ⟨hw.ok n (by simp), hw.ok c (by simp), hw.ok f (by simp)⟩
        · cases h
    · split at h
      · unfold dropsP at h
        split at h
        · rename_i c
          have : ∀ {ws : List Str} {r r' : Rs}, dropsG r ws = some r' → r'.cs = r.cs ∧ r'.bs = r.bs ∧ r'.rs = r.rs ∧ r'.ds.length = r.ds.length + ws.length := by
            intro ws
            induction ws with
            | nil => intro r r' h; cases h; exact ⟨rfl, rfl, rfl, rfl⟩
            | cons w ws ih =>
              intro r r' h
              unfold dropsG at h
              rw [Option.bind_eq_some_iff] at h
              obtain ⟨r1, h1, h2⟩ := h
              obtain ⟨a, b, c, d⟩ := ih h2
              have l := dropP_len h1
              have e : r1.cs = r.cs ∧ r1.bs = r.bs ∧ r1.rs = r.rs := by
                unfold dropP at h1
                split at h1
                · split at h1
                  · cases h1; exact ⟨rfl, rfl, rfl⟩
                  · cases h1
                · cases h1
              exact ⟨a.trans e.1, b.trans e.2.1, c.trans e.2.2, by rw [d, l, List.length_cons]; omega⟩
          obtain ⟨a, b, c', d⟩ := this h
          have := c.2.2.2
          exact ⟨by rw [a]; exact ok.c6, by rw [b]; exact ok.b24, by rw [d, c.2.1]; simp; omega, by rw [c']; exact ok.r12, by rw [b]; exact ok.bk⟩
        · cases h
      · match ws, hw, h with
        | [n, f, t, d], hw, h =>
          simp only [raceP] at h
          split at h
          · rename_i q
            split at h
            · cases h
              exact ⟨ok.c6, ok.b24, ok.d3, by simp; omega, ok.bk⟩
            · cases h
          · cases h
theorem wentP_ok {ws : List Str} (hw : Wds ws) (ok : RsOk r) {r' : Rs} (h : wentP r ws = some r') : RsOk r' := by
  match ws, hw, h with
  | w :: ws, hw, h =>
    simp only [wentP] at h
    split at h
    · rename_i k hk
      split at h
      · exact lineP_ok hw.tl (r := { r with la := k }) ⟨ok.c6, ok.b24, ok.d3, ok.r12, ok.bk⟩ h
      · cases h
    · cases h
end
end RR
namespace RR
open PySem RL RM RG
def wordsOf (l : Str) : List Str := (Txt.split (Txt.partition l ("#" : Str)).1 (" " : Str)).filter fun w => decide (w ≠ ("" : Str))
section
variable {r : Rs} {xb xr : RL.Env → SRes} {sb : List (Str × Bool)} {ρ : RL.Env} {S : RL.Env → Res D}
def stepP (r : Rs) (k : Nat) (l : Str) : Option Rs := if 9 ∈ l.cps.toList then none else if wordsOf l = [] then some { r with rw := (k : Int) + 1 } else wentP { r with rw := (k : Int) + 1 } (wordsOf l)
def linesP (r : Rs) (k : Nat) : List Str → Option Rs
  | [] => some r
  | l :: ls => (stepP r k l).bind fun r' => linesP r' (k + 1) ls
structure LineOk (l : Str) : Prop where
  len : l.length ≤ 100000
  pre : (Txt.partition l ("#" : Str)).1.length ≤ 100000
  few : (Txt.split (Txt.partition l ("#" : Str)).1 (" " : Str)).length ≤ 10000
  wds : Wds (wordsOf l)
abbrev ET (r : Rs) (x : Str) (L : D) (k l w : Option D) : RL.Env := [some (rdD true r), some (.str x), some L, k, l, w, none]
theorem tab_in (l : Str) : oNotIn (.str "\t") (.str l) = some (.bl (!decide (9 ∈ l.cps.toList))) := by
  have h1 : ("\t" : Str).cps.size = 1 := by decide +kernel
  have h2 : ("\t" : Str).cps.getD 0 0 = 9 := by decide +kernel
  simp only [oNotIn, fIn, h1, if_true, h2, Option.map_some]
theorem step_eq (hs : subGo sb "BadTime" = some true) {x l : Str} {L : D} {k : Nat} {w : Option D} (hl : LineOk l) (ok : RsOk r) {r' : Rs} (h : stepP r k l = some r') : ∃ w', k_Reader_went_through_7 xb sb (ET r x L (some (.int (k : Int))) (some (.str l)) w) = .nx (ET r' x L (some (.int (k : Int))) (some (.str l)) w') ∧ RsOk r' := by
  unfold stepP at h
  split at h
  · cases h
  · rename_i nt
    have e1 : t_Reader_went_through_1 (ET r x L (some (.int (k : Int))) (some (.str l)) w) = .nx (ET { r with rw := (k : Int) + 1 } x L (some (.int (k : Int))) (some (.str l)) w) := set_rw rfl (by simp)
    have ok1 : RsOk { r with rw := (k : Int) + 1 } := ⟨ok.c6, ok.b24, ok.d3, ok.r12, ok.bk⟩
    have ti := tab_in l
    rw [decide_eq_false nt] at ti
    obtain ⟨r1, hr1⟩ : ∃ r1 : Rs, r1 = { r with rw := (k : Int) + 1 } := ⟨_, rfl⟩
    rw [← hr1] at e1 ok1 h
    have e2 : t_Reader_went_through_2 xb (ET r1 x L (some (.int (k : Int))) (some (.str l)) w) = .nx (ET r1 x L (some (.int (k : Int))) (some (.str l)) w) :=
      need_st rfl rfl (by simp [ti])
    have pa : fPart l (.str "#") = some (.tup [.str (Txt.partition l "#").1, .str (Txt.partition l "#").2.1, .str (Txt.partition l "#").2.2]) := by
      have : (Str.ofString "#").length = 1 := by decide +kernel
      rw [fPart, if_pos ⟨by omega, by have := hl.len; unfold sizeLine; omega⟩]
    have pl : (Txt.partition l ("#" : Str)).1.length + 2 ≤ sizeLine := by have := hl.pre; unfold sizeLine; omega
    have sp : fSplit (Txt.partition l ("#" : Str)).1 (.str " ") = some (.lst true ((Txt.split (Txt.partition l ("#" : Str)).1 " ").map .str)) := by
      have : (Str.ofString " ").length = 1 := by decide +kernel
      rw [fSplit, if_pos ⟨by omega, pl⟩]
    have l3 : l_Reader_went_through_3 (ET r1 x L (some (.int (k : Int))) (some (.str l)) w) = .ok (.lst true ((wordsOf l).map .str)) := by
      refine lc_fl (e := D.str) (xs := Txt.split (Txt.partition l ("#" : Str)).1 " ") (g := D.str) (p := fun w => decide (w ≠ ("" : Str))) hl.few ?_ fun w _ => ?_
      · simp [pa, sp]
      · simp [lcOne, wipeE]
        split <;> simp
    have e4 : t_Reader_went_through_4 (ET r1 x L (some (.int (k : Int))) (some (.str l)) w) = .nx (ET r1 x L (some (.int (k : Int))) (some (.str l)) (some (wL (wordsOf l)))) := by
      have fz : (D.lst true ((wordsOf l).map .str)).frz = wL (wordsOf l) := by rw [D.frz, frzL_strs]
      generalize D.lst true ((wordsOf l).map .str) = V at *
      generalize wL (wordsOf l) = V' at *
      simp [t_Reader_went_through_4, l3, fz]
    have z0 : 0 ≤ sizeLine := by decide
    have ne := opNe_L (o := false) (o' := true) (xs := wordsOf l) (ys := []) hl.wds.ok (by simp)
    have ne' : opNe (wL (wordsOf l)) (.lst true []) = some (.bl (!decide (wordsOf l = []))) := ne
    have cw : (wL (wordsOf l)).clean = true := by simp
    have fw : (wL (wordsOf l)).frz = wL (wordsOf l) := by rw [D.frz, frzL_strs]
    by_cases q : wordsOf l = []
    · rw [if_pos q] at h
      obtain rfl := Option.some.inj h
      have e6 : t_Reader_went_through_6 xb sb (ET r1 x L (some (.int (k : Int))) (some (.str l)) (some (wL (wordsOf l)))) = .nx (ET r1 x L (some (.int (k : Int))) (some (.str l)) (some (wL (wordsOf l)))) := by
        rw [decide_eq_true q] at ne'
        generalize wL (wordsOf l) = V at *
        simp [t_Reader_went_through_6, z0, ne']
      exact ⟨_, by rw [k_Reader_went_through_7, sThen_ap, e1, andThen_nx, sThen_ap, e2, andThen_nx, sThen_ap, e4, andThen_nx, e6], ok1⟩
    · rw [if_neg q] at h
      have f := went_eq (xb := xb) hs hl.wds ok1 h
      have e6 : t_Reader_went_through_6 xb sb (ET r1 x L (some (.int (k : Int))) (some (.str l)) (some (wL (wordsOf l)))) = .nx (ET r' x L (some (.int (k : Int))) (some (.str l)) (some (wL (wordsOf l)))) := by
        rw [decide_eq_false q] at ne'
        generalize wL (wordsOf l) = V at *
        have t : sTest (s2 opNe (sVarB 5) (sLst sNil)) (ET r1 x L (some (.int (k : Int))) (some (.str l)) (some V)) = .ok true := by simp [z0, ne']
        rw [t_Reader_went_through_6, sIfS_ap, t, stm_ok, if_pos rfl]
        exact cM_ap (ρ := ET r1 x L (some (.int (k : Int))) (some (.str l)) (some V)) (i := 0) (ds := [V]) m_went rfl (by simp [cw]) rfl (by simp only [frzL_cons, frzL_nil, fw]; exact f)
      exact ⟨_, by rw [k_Reader_went_through_7, sThen_ap, e1, andThen_nx, sThen_ap, e2, andThen_nx, sThen_ap, e4, andThen_nx, e6], wentP_ok hl.wds ok1 h⟩
theorem lines_eq (hs : subGo sb "BadTime" = some true) {x : Str} {L : D} : ∀ {ls : List Str} {k : Nat} {r r' : Rs} {a b w : Option D}, (∀ l ∈ ls, LineOk l) → RsOk r → linesP r k ls = some r' →
    ∃ a' b' w', forRun (.tp [.nm 3, .nm 4]) (k_Reader_went_through_7 xb sb) ((ls.zipIdx k).map fun p => .tup [.int (p.2 : Int), .str p.1]) (ET r x L a b w) = .nx (ET r' x L a' b' w') ∧ RsOk r'
  | [], k, r, r', a, b, w, _, ok, h => by cases h; exact ⟨a, b, w, rfl, ok⟩
  | l :: ls, k, r, r', a, b, w, hl, ok, h => by
    unfold linesP at h
    rw [Option.bind_eq_some_iff] at h
    obtain ⟨r1, h1, h2⟩ := h
    obtain ⟨w1, e1, ok1⟩ := step_eq (xb := xb) hs (x := x) (L := L) (w := w) (hl l (by simp)) ok h1
    obtain ⟨a', b', w', e2, ok2⟩ := lines_eq hs (x := x) (L := L) (ls := ls) (k := k + 1) (a := some (.int (k : Int))) (b := some (.str l)) (w := w1) (fun y hy => hl y (List.mem_cons_of_mem _ hy)) ok1 h2
    refine ⟨a', b', w', ?_, ok2⟩
    rw [List.zipIdx_cons, List.map_cons, forRun_cons]
    have st : (Tg.tp [.nm 3, .nm 4]).set (.tup [.int (k : Int), .str l]) (ET r x L a b w) = some (ET r x L (some (.int (k : Int))) (some (.str l)) w) := by simp
    rw [st, put_some, andThen_nx, e1, loopK_nx, e2]
theorem enum_strs {o : Bool} {xs : List Str} : enum1 [.lst o (xs.map .str)] = some ((xs.zipIdx 0).map fun p => .tup [.int (p.2 : Int), .str p.1]) := by
  simp only [enum1, lstD_l cleanL_strs, Option.map_some]
  exact congrArg some (pairs_zip xs 0)
theorem through_eq (hs : subGo sb "BadTime" = some true) {x : Str} (hx : x.length ≤ 100000) (hn : (Txt.split x ("\n" : Str)).length ≤ 10000) (hl : ∀ l ∈ Txt.split x ("\n" : Str), LineOk l) (ok : RsOk r) {r' : Rs} (h : linesP r 0 (Txt.split x ("\n" : Str)) = some r') (hb : r'.bs ≠ []) :
    ∃ k : Int, f_Reader_went_through xb sb [rdD true r, .str x] = .ok .non [rdD true { r' with rw := k }] := by
  have sp : fSplit x (.str "\n") = some (.lst true ((Txt.split x "\n").map .str)) := by
    have : (Str.ofString "\n").length = 1 := by decide +kernel
    rw [fSplit, if_pos ⟨by omega, by unfold sizeLine; omega⟩]
  obtain ⟨a, b, w, e, ok'⟩ := lines_eq (xb := xb) hs (x := x) (L := wL (Txt.split x ("\n" : Str))) (a := none) (b := none) (w := none) hl ok h
  have en : enum1 [wL (Txt.split x ("\n" : Str))] = some (((Txt.split x ("\n" : Str)).zipIdx 0).map fun p => .tup [.int (p.2 : Int), .str p.1]) := enum_strs (o := false) (xs := Txt.split x ("\n" : Str))
  have ln : fLenX (wL (Txt.split x ("\n" : Str))) = some (.int ((Txt.split x ("\n" : Str)).length : Nat)) := by simp
  have e0 : t_Reader_went_through_0 [some (rdD true r), some (.str x), none, none, none, none, none] = .nx (ET r x (wL (Txt.split x ("\n" : Str))) none none none) := by
    have fz : (D.lst true ((Txt.split x ("\n" : Str)).map .str)).frz = wL (Txt.split x ("\n" : Str)) := by rw [D.frz, frzL_strs]
    generalize D.lst true ((Txt.split x ("\n" : Str)).map .str) = V at *
    simp [t_Reader_went_through_0, sp, fz]
  have cw : (wL (Txt.split x ("\n" : Str))).clean = true := by simp
  refine ⟨((Txt.split x ("\n" : Str)).length : Nat) + 1, ?_⟩
  generalize (Txt.split x ("\n" : Str)).zipIdx 0 = Z at *
  generalize ((Txt.split x ("\n" : Str)).length : Int) = N at *
  generalize wL (Txt.split x ("\n" : Str)) = W at *
  have e7 : t_Reader_went_through_7 xb sb (ET r x W none none none) = .nx (ET r' x W a b w) := by
    rw [t_Reader_went_through_7, sFor_ap]
    have : (sI enum1 (sCons (sVar 2) sNil)) (ET r x W none none none) = .ok (Z.map fun p => .tup [.int (p.2 : Int), .str p.1]) := by
      simp [cw, en, -List.map_map]
    rw [this, stm_ok, e]
  have e8 : t_Reader_went_through_8 (ET r' x W a b w) = .nx (ET { r' with rw := N + 1 } x W a b w) := set_rw rfl (by simp [ln])
  have z0 : 0 ≤ sizeLine := by decide
  have ok2 : RsOk { r' with rw := N + 1 } := ⟨ok'.c6, ok'.b24, ok'.d3, ok'.r12, ok'.bk⟩
  have bn := ok2.bne (o := false) (o' := true)
  have : decide (({ r' with rw := N + 1 } : Rs).bs = []) = false := by simp [hb]
  rw [this] at bn
  have e9 : t_Reader_went_through_9 xb (ET { r' with rw := N + 1 } x W a b w) = .nx (ET { r' with rw := N + 1 } x W a b w) :=
    need_st rfl rfl (by simp [g_crewsR, bn, z0])
  rw [f_Reader_went_through, runDef_ap, show entry 7 [rdD true r, .str x] = [some (rdD true r), some (.str x), none, none, none, none, none] from rfl]
  unfold b_Reader_went_through
  rw [sThen_ap, e0, andThen_nx, sThen_ap, e7, andThen_nx, sThen_ap, e8, andThen_nx, e9, endF_nx1 rfl]
abbrev r0 : Rs := ⟨[], [], [], [], 0, 0⟩
def mtOf (r : Rs) : Mt := ⟨r.cs, r.bs, r.ds, r.rs⟩
theorem r0_ok : RsOk r0 := ⟨by simp, by simp, by simp, by simp, fun b hb => by simp at hb⟩
theorem make_eq : mkRes "Reader" 1 f_Reader___init__ [] = .ok (rdD true r0) := by
  have z0 : 0 ≤ sizeLine := by decide
  rfl
theorem readM_eq (hs : subGo sb "BadTime" = some true) {x : Str} (hx : x.length ≤ 100000) (hn : (Txt.split x ("\n" : Str)).length ≤ 10000) (hl : ∀ l ∈ Txt.split x ("\n" : Str), LineOk l) {r' : Rs} (h : linesP r0 0 (Txt.split x ("\n" : Str)) = some r') (hb : r'.bs ≠ []) {nb nr : Nat} (g : Good nb nr (mtOf r')) (h1 : nb ≤ 100) (h2 : nr ≤ 100) :
    f_read xb xr sb [.str x] = .ok (objO true (mtOf r')) [] := by
  obtain ⟨k, th⟩ := through_eq (xb := xb) hs hx hn hl r0_ok h hb
  have of := of_eq g h1 h2
  have sy : fIsTy "str" (.str x) = some (.bl true) := isTy_str rfl
  have e0 : t_read_0 xr [some (.str x), none] = .nx [some (.str x), none] := by simp [t_read_0, sy]
  have e1 : t_read_1 [some (.str x), none] = .nx [some (.str x), some (rdD true r0)] := by
    simp [t_read_1, make_eq]
  have e2 : t_read_2 xb sb [some (.str x), some (rdD true r0)] = .nx [some (.str x), some (rdD true { r' with rw := k })] :=
    cM_ap (ρ := [some (.str x), some (rdD true r0)]) (i := 1) (ds := [.str x]) m_through rfl (by simp) rfl (by simpa using th)
  have a : (sCons (sTup (sCons (sCall (on1 fTux) (sCons (sFld cs_classes_R "classes" (sVarB 1)) sNil)) (sCons (sCall (on1 fTuple) (sCons (sFld cs_crews_R "crews" (sVarB 1)) sNil)) (sCons (sCall (on1 fTuple) (sCons (sFld cs_limits_R "limits" (sVarB 1)) sNil)) (sCons (sCall (on1 fTuple) (sCons (sFld cs_runs_R "runs" (sVarB 1)) sNil)) sNil))))) sNil) [some (.str x), some (rdD true { r' with rw := k })] = .ok [(mtOf r').D] := by
    have h4 : 4 ≤ sizeLine := by decide
    have t1 : fTux (.lst true (r'.cs.map clD)) = some (.tux (r'.cs.map clD)) := by simp [fTux, cleanL_of clD_clean]
    have t2 : fTuple (.lst true (r'.bs.map boatD)) = some (.tup (r'.bs.map boatD)) := by simp [fTuple, cleanL_of boatD_clean]
    have t3 : fTuple (.lst true (r'.ds.map .int)) = some (.tup (r'.ds.map .int)) := by simp [fTuple]
    have t4 : fTuple (.lst true (r'.rs.map raceD)) = some (.tup (r'.rs.map raceD)) := by simp [fTuple, cleanL_of raceD_clean]
    simp [g_classes, g_crewsR, g_limitsR, g_runsR, t1, t2, t3, t4, h4, mtOf, Mt.D]
  have e3 : t_read_3 [some (.str x), some (rdD true { r' with rw := k })] = .rt (objO true (mtOf r')) [some (.str x), some (rdD true { r' with rw := k })] := by
    have fz : frzL [(mtOf r').D] = [(mtOf r').D] := by simp
    rw [t_read_3, sRet_ap, sCallF_ap, a, bind_ok, fz]
    simp [of]
  rw [f_read, runDef_ap, show entry 2 [D.str x] = [some (.str x), none] from rfl]
  unfold b_read
  rw [sThen_ap, e0, andThen_nx, sThen_ap, e1, andThen_nx, sThen_ap, e2, andThen_nx, e3]
  rfl
end
end RR
namespace RR
open PySem RL RM RG
open RT (num ttxt figsB fig fig_dig tread_ttxt)
theorem num_tl (n : Nat) : (num n).cps.toList = TL.numL n := TL.tl_num n
theorem num_len {n k : Nat} (hk : 0 < k) (h : n < 10 ^ k) : (num n).length ≤ k := by
  have := TL.numL_len hk h
  rw [← num_tl] at this
  simpa [Str.length] using this
theorem num_pos (n : Nat) : 1 ≤ (num n).length := by
  have := TL.numL_ne n
  rw [← num_tl] at this
  have h : (num n).cps.toList.length ≠ 0 := fun z => this (List.length_eq_zero_iff.mp z)
  have : (num n).cps.toList.length = (num n).length := by simp [Str.length]
  omega
theorem num_fig (n : Nat) : fig (num n) = true := by
  rw [fig_dig, num_tl, List.all_eq_true]
  intro c hc
  have := TL.numL_digits n
  have h2 := this c hc
  simp only [Bool.and_eq_true, decide_eq_true_eq]
  omega
theorem num_head : ∀ {n : Nat}, 0 < n → (TL.numL n).head? ≠ some 48 := by
  intro n
  induction n using Nat.strongRecOn with
  | _ n ih =>
    intro hn
    by_cases h : n < 10
    · rw [TL.numL_lt h]
      simp
      omega
    · rw [TL.numL_step (by omega)]
      have := ih (n / 10) (by omega) (by omega)
      have ne := TL.numL_ne (n / 10)
      cases q : TL.numL (n / 10) with
      | nil => exact absurd q ne
      | cons a l => rw [q] at this; simpa using this
theorem num_in {n : Nat} (h : n ≤ 9999) : numIn (num n) = some (n : Int) := by
  have l4 := num_len (n := n) (k := 4) (by decide) (by omega)
  have l1 := num_pos n
  have it : intText? (num n) = some (n : Int) := TL.int_num (by
    have := TL.numL_len (n := n) (k := 4) (by decide) (by omega)
    omega)
  unfold numIn
  rw [if_pos, it]
  refine ⟨by
    simp only [figsB, num_fig, Bool.and_eq_true, decide_eq_true_eq, and_true]
    exact ⟨by omega, by omega⟩, fun ⟨z1, z2⟩ => ?_⟩
  by_cases h0 : n = 0
  · subst h0
    exact z2 (by decide +kernel)
  · have hh := num_head (n := n) (by omega)
    rw [← num_tl] at hh
    apply hh
    cases q : (num n).cps.toList with
    | nil =>
      have : (num n).cps.toList.length = (num n).length := by simp [Str.length]
      rw [q] at this
      simp at this
      omega
    | cons a l =>
      have : (num n).cps.getD 0 0 = a := by
        have e : (num n).cps = (a :: l).toArray := by rw [← q]
        rw [e]
        rfl
      rw [z1] at this
      rw [← this]
      rfl
def hcW : RH.Hc → List Str
  | .level => ["level"]
  | .factor k => ["factor", num k.toNat]
  | .yard k => ["yard", num k.toNat]
  | .mile k => ["mile", num k.toNat]
def clW (c : ClT) : List Str := "class" :: c.1 :: hcW c.2
def btW (b : BtT) : List Str := ["boat", b.1, b.2.1, b.2.2]
def drW (ds : List Int) : List Str := "drops" :: ds.map fun d => num d.toNat
def rcW (r : RcT) : List Str := ["race", r.1, r.2.1, ttxt r.2.2.1.toNat, num r.2.2.2.toNat]
def mtW (m : Mt) : List (List Str) := m.cs.map clW ++ m.bs.map btW ++ (if m.ds = [] then [] else [drW m.ds]) ++ m.rs.map rcW
def goP (r : Rs) : List (List Str) → Option Rs
  | [] => some r
  | w :: ws => (wentP r w).bind fun r' => goP r' ws
theorem goP_app {r : Rs} {xs ys : List (List Str)} : goP r (xs ++ ys) = (goP r xs).bind fun r' => goP r' ys := by
  induction xs generalizing r with
  | nil => rfl
  | cons x xs ih =>
    show (wentP r x).bind _ = ((wentP r x).bind _).bind _
    cases wentP r x with
    | none => rfl
    | some r1 => exact ih
theorem hc_in {h : RH.Hc} (k : HcOk h) : hcIn (hcW h) = some h := by
  have n1 : ("yard" : Str) ≠ "factor" := by decide +kernel
  have n2 : ("mile" : Str) ≠ "factor" := by decide +kernel
  have n3 : ("mile" : Str) ≠ "yard" := by decide +kernel
  have m1 : ("factor" : Str) ∈ kinds3 := by simp
  have m2 : ("yard" : Str) ∈ kinds3 := by simp
  have m3 : ("mile" : Str) ∈ kinds3 := by simp
  cases h with
  | level => simp [hcW, hcIn]
  | factor b =>
    have hb : 1 ≤ b ∧ b ≤ 5000 := by rcases k with z | z; cases z; exact z
    have e := num_in (n := b.toNat) (by omega)
    have eb : ((b.toNat : Nat) : Int) = b := by omega
    rw [eb] at e
    simp only [hcW, hcIn, m1, if_true, e, hb, and_self, mkHc]
  | yard b =>
    have hb : 1 ≤ b ∧ b ≤ 5000 := by rcases k with z | z; cases z; exact z
    have e := num_in (n := b.toNat) (by omega)
    have eb : ((b.toNat : Nat) : Int) = b := by omega
    rw [eb] at e
    simp only [hcW, hcIn, m2, if_true, e, hb, and_self, mkHc, n1, if_false]
  | mile b =>
    have hb : 1 ≤ b ∧ b ≤ 5000 := by rcases k with z | z; cases z; exact z
    have e := num_in (n := b.toNat) (by omega)
    have eb : ((b.toNat : Nat) : Int) = b := by omega
    rw [eb] at e
    simp only [hcW, hcIn, m3, if_true, e, hb, and_self, mkHc, n2, n3, if_false]
section
variable {m : Mt} {nb nr : Nat}
theorem o_ne : ("boat" : Str) ≠ "class" ∧ ("drops" : Str) ≠ "class" ∧ ("drops" : Str) ≠ "boat" ∧ ("race" : Str) ≠ "class" ∧ ("race" : Str) ≠ "boat" ∧ ("race" : Str) ≠ "drops" := by decide +kernel
theorem go_cs (g : Good nb nr m) : ∀ (ys xs : List ClT) (r : Rs), m.cs = xs ++ ys → r.cs = xs → r.la = 0 → goP r (ys.map clW) = some { r with cs := m.cs }
  | [], xs, r, h, hc, _ => by
    rw [List.append_nil] at h
    rw [h, ← hc]
    rfl
  | c :: ys, xs, r, h, hc, hl => by
    have nd := g.cnd
    have c6 := g.c6
    have hm : c ∈ m.cs := by rw [h]; simp
    have hh : hcIn (hcW c.2) = some c.2 := hc_in (g.chc c hm)
    have nn : c.1 ∉ r.cs.map (·.1) := by
      rw [hc]
      rw [h, List.map_append, List.map_cons] at nd
      obtain ⟨_, _, dj⟩ := List.nodup_append.mp nd
      exact fun z => dj c.1 z c.1 (by simp) rfl
    have lt : r.cs.length < 6 := by
      rw [h] at c6
      rw [hc]
      simp at c6
      omega
    have e1 : classP { r with la := 0 } (c.1 :: hcW c.2) = some { r with la := 0, cs := r.cs ++ [c] } := by
      have : ∃ a as, hcW c.2 = a :: as := by cases c.2 <;> exact ⟨_, _, rfl⟩
      obtain ⟨a, as, ha⟩ := this
      rw [ha] at hh ⊢
      simp only [classP, lt, nm_B (g.cnm c hm), nn, not_false_eq_true, and_self, if_true, hh, Option.map_some]
    have o : ordOf "class" = some 0 := if_pos rfl
    have e : wentP r (clW c) = some { r with la := 0, cs := r.cs ++ [c] } := by
      simp only [clW, wentP, o, hl, Int.le_refl, if_true, lineP]
      exact e1
    show (wentP r (clW c)).bind _ = _
    rw [e, Option.bind_some, go_cs g ys (xs ++ [c]) _ (by rw [h]; simp) (by simp [hc]) rfl]
    simp [hl]
theorem go_bs (g : Good nb nr m) (hnb : nb ≤ 24) : ∀ (ys xs : List BtT) (r : Rs), m.bs = xs ++ ys → r.bs = xs → r.la ≤ 1 → r.cs = m.cs → ∃ k : Int, k ≤ 1 ∧ goP r (ys.map btW) = some { r with bs := m.bs, la := k }
  | [], xs, r, h, hb, hl, hc => by
    rw [List.append_nil] at h
    exact ⟨r.la, hl, by rw [h, ← hb]; rfl⟩
  | b :: ys, xs, r, h, hb, hl, hc => by
    have nd := g.bnd
    have bn := g.bn
    have hm : b ∈ m.bs := by rw [h]; simp
    have nn : b.1 ∉ r.bs.map (·.1) := by
      rw [hb]
      rw [h, List.map_append, List.map_cons] at nd
      obtain ⟨_, _, dj⟩ := List.nodup_append.mp nd
      exact fun z => dj b.1 z b.1 (by simp) rfl
    have lt : r.bs.length < 24 := by
      rw [h] at bn
      rw [hb]
      simp at bn
      omega
    have fl : b.2.2 ∈ flt r ∨ (flt r).length < 3 := by
      by_cases z : b.2.2 ∈ flt r
      · exact .inl z
      · refine .inr ?_
        obtain ⟨F, f1, f2, f3, f4⟩ := g.bfl
        have ndf : (flt r ++ [b.2.2]).Nodup := List.nodup_append.mpr ⟨nubA_nodup List.nodup_nil, by simp, fun x hx y hy => by rw [List.mem_singleton.mp hy]; rintro rfl; exact z hx⟩
        have sub : ∀ x ∈ flt r ++ [b.2.2], x ∈ F := by
          intro x hx
          rcases List.mem_append.mp hx with z | z
          · have := (nubA_mem.mp z).resolve_left (by simp)
            obtain ⟨y, hy, rfl⟩ := List.mem_map.mp this
            exact f4 y (by rw [h]; rw [hb] at hy; exact List.mem_append_left _ hy)
          · rw [List.mem_singleton.mp z]
            exact f4 b hm
        have := List.Nodup.length_le_of_subset ndf sub
        simp at this
        omega
    have cl : b.2.1 ∈ r.cs.map (·.1) := by rw [hc]; exact g.bcl b hm
    obtain ⟨o1, o2, o3, o4, o5, o6⟩ := o_ne
    have o : ordOf "boat" = some 1 := by simp [ordOf, o1]
    have fl' : b.2.2 ∈ flt { r with la := 1 } ∨ (flt { r with la := 1 }).length < 3 := fl
    have e1 : boatP { r with la := 1 } [b.1, b.2.1, b.2.2] = some { r with la := 1, bs := r.bs ++ [b] } := by
      simp only [boatP, lt, nm_B (g.bnm b hm), nn, cl, nm_B (g.bfn hm), fl', not_false_eq_true, and_self, if_true]
    have e : wentP r (btW b) = some { r with la := 1, bs := r.bs ++ [b] } := by
      simp only [btW, wentP, o, hl, if_true, lineP, o1, if_false]
      exact e1
    obtain ⟨k, hk, e2⟩ := go_bs g hnb ys (xs ++ [b]) { r with la := 1, bs := r.bs ++ [b] } (by rw [h]; simp) (by simp [hb]) (by simp) hc
    refine ⟨k, hk, ?_⟩
    show (wentP r (btW b)).bind _ = _
    rw [e, Option.bind_some, e2]
theorem drops_go (g : Good nb nr m) : ∀ (ys xs : List Int) (r : Rs), m.ds = xs ++ ys → r.ds = xs → dropsG r (ys.map fun d => num d.toNat) = some { r with ds := m.ds }
  | [], xs, r, h, hd => by
    rw [List.append_nil] at h
    rw [h, ← hd]
    rfl
  | d :: ys, xs, r, h, hd => by
    have hm : d ∈ m.ds := by rw [h]; simp
    obtain ⟨d1, d2⟩ := g.din d hm
    have e := num_in (n := d.toNat) (by omega)
    have eb : ((d.toNat : Nat) : Int) = d := by omega
    rw [eb] at e
    have up := g.dup
    rw [h, List.pairwise_append] at up
    have e1 : dropP r (num d.toNat) = some { r with ds := r.ds ++ [d] } := by
      have lt : ∀ l, r.ds.getLast? = some l → l < d := fun l hl => by
        rw [hd] at hl
        exact up.2.2 l (List.mem_of_getLast? hl) d (by simp)
      unfold dropP
      rw [e]
      simp only
      rw [if_pos ⟨d1, d2, lt⟩]
    show (dropP r (num d.toNat)).bind _ = _
    rw [e1, Option.bind_some, drops_go g ys (xs ++ [d]) _ (by rw [h]; simp) (by simp [hd])]
theorem go_rs (g : Good nb nr m) (hnr : nr ≤ 12) : ∀ (ys xs : List RcT) (r : Rs), m.rs = xs ++ ys → r.rs = xs → r.la ≤ 3 → r.bs = m.bs → ∃ k : Int, goP r (ys.map rcW) = some { r with rs := m.rs, la := k }
  | [], xs, r, h, hb, hl, hc => by
    rw [List.append_nil] at h
    exact ⟨r.la, by rw [h, ← hb]; rfl⟩
  | c :: ys, xs, r, h, hb, hl, hc => by
    have nd := g.rnd
    have rn := g.rn
    have b0 := g.b0
    have hm : c ∈ m.rs := by rw [h]; simp
    have nn : c.1 ∉ r.rs.map (·.1) := by
      rw [hb]
      rw [h, List.map_append, List.map_cons] at nd
      obtain ⟨_, _, dj⟩ := List.nodup_append.mp nd
      exact fun z => dj c.1 z c.1 (by simp) rfl
    have lt : r.rs.length < 12 := by
      rw [h] at rn
      rw [hb]
      simp at rn
      omega
    have bne : r.bs ≠ [] := by rw [hc]; exact List.length_pos_iff.mp b0
    obtain ⟨k1, k2, k3, k4, k5⟩ := g.rok c hm
    have ft := fleet_told g hm
    have ft' : c.2.1 = ("all" : Str) ∨ c.2.1 ∈ flt { r with la := 3 } := by
      rcases ft with z | z
      · exact .inl z
      · exact .inr (by unfold flt; rw [show ({ r with la := 3 } : Rs).bs = m.bs from hc]; exact z)
    have e3 := num_in (n := c.2.2.2.toNat) (by omega)
    rw [show ((c.2.2.2.toNat : Nat) : Int) = c.2.2.2 by omega] at e3
    have e2 : timeIn (ttxt c.2.2.1.toNat) = some c.2.2.1 := by
      have := tread_ttxt (t := c.2.2.1.toNat) (by omega)
      rw [show ((c.2.2.1.toNat : Nat) : Int) = c.2.2.1 by omega] at this
      exact this
    obtain ⟨o1, o2, o3, o4, o5, o6⟩ := o_ne
    have o : ordOf "race" = some 3 := by simp [ordOf, o4, o5, o6]
    have e1 : raceP { r with la := 3 } [c.1, c.2.1, ttxt c.2.2.1.toNat, num c.2.2.2.toNat] = some { r with la := 3, rs := r.rs ++ [c] } := by
      simp only [raceP, bne, lt, nm_B (g.rnm c hm), nn, ft', ne_eq, not_false_eq_true, and_self, if_true, e2, e3]
    have e : wentP r (rcW c) = some { r with la := 3, rs := r.rs ++ [c] } := by
      simp only [rcW, wentP, o, hl, if_true, lineP, o4, o5, o6, if_false]
      exact e1
    obtain ⟨k, e4⟩ := go_rs g hnr ys (xs ++ [c]) { r with la := 3, rs := r.rs ++ [c] } (by rw [h]; simp) (by simp [hb]) (by simp) hc
    refine ⟨k, ?_⟩
    show (wentP r (rcW c)).bind _ = _
    rw [e, Option.bind_some, e4]
theorem go_all (g : Good nb nr m) (hnb : nb ≤ 24) (hnr : nr ≤ 12) : ∃ k : Int, goP r0 (mtW m) = some ⟨m.cs, m.bs, m.ds, m.rs, k, 0⟩ := by
  have e1 := go_cs g m.cs [] r0 rfl rfl rfl
  obtain ⟨k1, hk1, e2⟩ := go_bs g hnb m.bs [] { r0 with cs := m.cs } rfl rfl (by simp) rfl
  have e3 : ∃ k2 : Int, k2 ≤ 3 ∧ goP { r0 with cs := m.cs, bs := m.bs, la := k1 } (if m.ds = [] then [] else [drW m.ds]) = some { r0 with cs := m.cs, bs := m.bs, ds := m.ds, la := k2 } := by
    by_cases h : m.ds = []
    · refine ⟨k1, by omega, ?_⟩
      rw [if_pos h, h]
      rfl
    · refine ⟨2, by omega, ?_⟩
      rw [if_neg h]
      have b0 := g.b0
      have d3 := g.d3
      have d1 : 1 ≤ m.ds.length := List.length_pos_iff.mpr h
      have bne : m.bs ≠ [] := List.length_pos_iff.mp b0
      have dg := drops_go g m.ds [] { r0 with cs := m.cs, bs := m.bs, la := 2 } rfl rfl
      obtain ⟨o1, o2, o3, o4, o5, o6⟩ := o_ne
      have o : ordOf "drops" = some 2 := by simp [ordOf, o2, o3]
      have e : wentP { r0 with cs := m.cs, bs := m.bs, la := k1 } (drW m.ds) = some { r0 with cs := m.cs, bs := m.bs, ds := m.ds, la := 2 } := by
        simp only [drW, wentP, o, show k1 ≤ 2 by omega, if_true, lineP, o2, o3, if_false, dropsP, bne, ne_eq, not_false_eq_true, List.length_map, d1, d3, and_self]
        exact dg
      show (wentP _ (drW m.ds)).bind _ = _
      rw [e]
      rfl
  obtain ⟨k2, hk2, e3⟩ := e3
  obtain ⟨k3, e4⟩ := go_rs g hnr m.rs [] { r0 with cs := m.cs, bs := m.bs, ds := m.ds, la := k2 } rfl rfl hk2 rfl
  refine ⟨k3, ?_⟩
  unfold mtW
  rw [goP_app, goP_app, goP_app, e1, Option.bind_some, e2, Option.bind_some, e3, Option.bind_some, e4]
end
end RR
namespace RR
open PySem RL RM RG
open RT (num ttxt spl_len)
open TL (tl)
def sepW (l : List Nat) : List (List Nat) := (TL.spl [32] 0 [] l).filter fun w => decide (w ≠ [])
theorem sep_nil : sepW [] = [] := by simp [sepW, TL.spl_nil]
theorem sep_blank (r : List Nat) : sepW (32 :: r) = sepW r := by
  unfold sepW
  have h : TL.pre [32] (32 :: r) = true := by simp [TL.pre]
  rw [TL.spl_hit h]
  simp
theorem sep_blanks : ∀ (n : Nat) (r : List Nat), sepW (List.replicate n 32 ++ r) = sepW r
  | 0, r => rfl
  | n + 1, r => by rw [List.replicate_succ, List.cons_append, sep_blank, sep_blanks n r]
theorem sep_word {w : List Nat} (h : w ≠ []) (h2 : 32 ∉ w) : sepW w = [w] := by
  unfold sepW
  rw [TL.spl_last1 h2]
  simp [h]
theorem sep_cons {w r : List Nat} (h : w ≠ []) (h2 : 32 ∉ w) : sepW (w ++ 32 :: r) = w :: sepW r := by
  unfold sepW
  have := TL.spl_part1 (s := 32) (S := []) (p := w) (rest := r) (acc := []) h2
  have e : w ++ ([32] ++ r) = w ++ 32 :: r := rfl
  rw [e] at this
  rw [this]
  simp [h]
theorem sep_join {g : Nat} : ∀ {ws : List (List Nat)} {k : Nat}, (∀ w ∈ ws, w ≠ [] ∧ 32 ∉ w) → sepW (TL.joinL (List.replicate (g + 1) 32) ws ++ List.replicate k 32) = ws
  | [], k, _ => by
    show sepW ([] ++ List.replicate k 32) = []
    have := sep_blanks k []
    rw [List.append_nil] at this
    rw [List.nil_append, this, sep_nil]
  | [w], k, h => by
    obtain ⟨h1, h2⟩ := h w (by simp)
    show sepW (w ++ List.replicate k 32) = [w]
    cases k with
    | zero => rw [List.replicate_zero, List.append_nil, sep_word h1 h2]
    | succ k =>
      have := sep_blanks k []
      rw [List.append_nil] at this
      rw [List.replicate_succ, sep_cons h1 h2, this, sep_nil]
  | w :: v :: ws, k, h => by
    obtain ⟨h1, h2⟩ := h w (by simp)
    show sepW ((w ++ (List.replicate (g + 1) 32 ++ TL.joinL (List.replicate (g + 1) 32) (v :: ws))) ++ List.replicate k 32) = _
    rw [List.append_assoc, List.append_assoc, List.replicate_succ, List.cons_append, sep_cons h1 h2, sep_blanks, ← List.replicate_succ, sep_join fun x hx => h x (List.mem_cons_of_mem _ hx)]
structure Wd (w : Str) : Prop where
  ne : tl w ≠ []
  ok : ∀ c ∈ tl w, c ≠ 32 ∧ c ≠ 35 ∧ c ≠ 9 ∧ c ≠ 10 ∧ c < 256
  len : w.length ≤ 100
theorem Wd.strOk {w : Str} (h : Wd w) : PyData.strOk w = true := by
  unfold PyData.strOk
  rw [Array.all_eq_true']
  intro c hc
  have := h.ok c (Array.mem_toList_iff.mpr hc)
  simp only [decide_eq_true_eq]
  omega
theorem nm_wd {x : Str} (h : RN.Nm x) : Wd x := by
  refine ⟨fun z => ?_, fun c hc => ?_, by have := h.hi; omega⟩
  · have := h.lo
    rw [TL.len_tl, z] at this
    simp at this
  · have hm : c ∈ RN.signs := h.sg c hc
    have : ∀ c ∈ RN.signs, c ≠ 32 ∧ c ≠ 35 ∧ c ≠ 9 ∧ c ≠ 10 ∧ c < 256 := by decide
    exact this c hm
theorem num_wd {n : Nat} (h : n ≤ 9999) : Wd (num n) := by
  have l4 := num_len (n := n) (k := 4) (by decide) (by omega)
  refine ⟨?_, fun c hc => ?_, by omega⟩
  · rw [show tl (num n) = TL.numL n from num_tl n]
    exact TL.numL_ne n
  · rw [show tl (num n) = TL.numL n from num_tl n] at hc
    have := TL.numL_digits n c hc
    omega
theorem two_wd {m : Nat} (h : m < 60) : ∀ c ∈ tl (RT.two m), 48 ≤ c ∧ c ≤ 57 := by
  intro c hc
  have e : tl (RT.two m) = [48 + m / 10, 48 + m % 10] := rfl
  rw [e] at hc
  simp only [List.mem_cons, List.not_mem_nil, or_false] at hc
  omega
theorem ttxt_wd {t : Nat} (h : t ≤ 359999) : Wd (ttxt t) := by
  have hl := RT.ttxt_len h
  have n1 := num_wd (n := t / 3600) (by omega)
  have e : tl (ttxt t) = tl (num (t / 3600)) ++ [58] ++ tl (RT.two (t / 60 % 60)) ++ [58] ++ tl (RT.two (t % 60)) := by
    unfold ttxt
    have : tl RT.co = [58] := by decide +kernel
    simp only [TL.tl_append, this]
  refine ⟨fun z => ?_, fun c hc => ?_, by omega⟩
  · rw [e] at z
    simp at z
  · rw [e] at hc
    simp only [List.mem_append, List.mem_cons, List.not_mem_nil, or_false] at hc
    rcases hc with (((hc | hc) | hc) | hc) | hc
    · exact n1.ok c hc
    · omega
    · have := two_wd (m := t / 60 % 60) (by omega) c hc
      omega
    · omega
    · have := two_wd (m := t % 60) (by omega) c hc
      omega
theorem key_wd : ∀ w ∈ [("class" : Str), "boat", "drops", "race", "level", "factor", "yard", "mile", "all"], Wd w := by
  have : ∀ w ∈ [("class" : Str), "boat", "drops", "race", "level", "factor", "yard", "mile", "all"], tl w ≠ [] ∧ (∀ c ∈ tl w, c ≠ 32 ∧ c ≠ 35 ∧ c ≠ 9 ∧ c ≠ 10 ∧ c < 256) ∧ w.length ≤ 100 := by decide +kernel
  intro w hw
  obtain ⟨a, b, c⟩ := this w hw
  exact ⟨a, b, c⟩
section
variable {m : Mt} {nb nr : Nat}
theorem mtW_wd (g : Good nb nr m) (hnr : nr ≤ 12) : ∀ ws ∈ mtW m, ws ≠ [] ∧ ws.length ≤ 6 ∧ ∀ w ∈ ws, Wd w := by
  have kw : ∀ {w : Str}, w ∈ [("class" : Str), "boat", "drops", "race", "level", "factor", "yard", "mile", "all"] → Wd w := fun h => key_wd _ h
  intro ws h
  unfold mtW at h
  rcases List.mem_append.mp h with h | h
  · rcases List.mem_append.mp h with h | h
    · rcases List.mem_append.mp h with h | h
      · obtain ⟨c, hc, rfl⟩ := List.mem_map.mp h
        have hk := g.chc c hc
        have nm := nm_wd (g.cnm c hc)
        obtain ⟨n, k⟩ := c
        cases k with
        | level =>
          refine ⟨by simp [clW], by simp [clW, hcW], fun w hw => ?_⟩
          simp only [clW, hcW, List.mem_cons, List.not_mem_nil, or_false] at hw
          rcases hw with rfl | rfl | rfl
          · exact kw (by simp)
          · exact nm
          · exact kw (by simp)
        | factor b =>
          have hb : 1 ≤ b ∧ b ≤ 5000 := by rcases hk with z | z; cases z; exact z
          refine ⟨by simp [clW], by simp [clW, hcW], fun w hw => ?_⟩
          simp only [clW, hcW, List.mem_cons, List.not_mem_nil, or_false] at hw
          rcases hw with rfl | rfl | rfl | rfl
          · exact kw (by simp)
          · exact nm
          · exact kw (by simp)
          · exact num_wd (by omega)
        | yard b =>
          have hb : 1 ≤ b ∧ b ≤ 5000 := by rcases hk with z | z; cases z; exact z
          refine ⟨by simp [clW], by simp [clW, hcW], fun w hw => ?_⟩
          simp only [clW, hcW, List.mem_cons, List.not_mem_nil, or_false] at hw
          rcases hw with rfl | rfl | rfl | rfl
          · exact kw (by simp)
          · exact nm
          · exact kw (by simp)
          · exact num_wd (by omega)
        | mile b =>
          have hb : 1 ≤ b ∧ b ≤ 5000 := by rcases hk with z | z; cases z; exact z
          refine ⟨by simp [clW], by simp [clW, hcW], fun w hw => ?_⟩
          simp only [clW, hcW, List.mem_cons, List.not_mem_nil, or_false] at hw
          rcases hw with rfl | rfl | rfl | rfl
          · exact kw (by simp)
          · exact nm
          · exact kw (by simp)
          · exact num_wd (by omega)
      · obtain ⟨b, hb, rfl⟩ := List.mem_map.mp h
        refine ⟨by simp [btW], by simp [btW], fun w hw => ?_⟩
        simp only [btW, List.mem_cons, List.not_mem_nil, or_false] at hw
        rcases hw with rfl | rfl | rfl | rfl
        · exact kw (by simp)
        · exact nm_wd (g.bnm b hb)
        · obtain ⟨c, hc, e⟩ := List.mem_map.mp (g.bcl b hb)
          rw [← e]
          exact nm_wd (g.cnm c hc)
        · exact nm_wd (g.bfn hb)
    · have d3 := g.d3
      split at h
      · simp at h
      · rw [List.mem_singleton.mp h]
        refine ⟨by simp [drW], by simp [drW]; omega, fun w hw => ?_⟩
        simp only [drW, List.mem_cons] at hw
        rcases hw with rfl | hw
        · exact kw (by simp)
        · obtain ⟨d, hd, rfl⟩ := List.mem_map.mp hw
          have := g.din d hd
          exact num_wd (by omega)
  · obtain ⟨c, hc, rfl⟩ := List.mem_map.mp h
    obtain ⟨k1, k2, k3, k4, k5⟩ := g.rok c hc
    refine ⟨by simp [rcW], by simp [rcW], fun w hw => ?_⟩
    simp only [rcW, List.mem_cons, List.not_mem_nil, or_false] at hw
    rcases hw with rfl | rfl | rfl | rfl | rfl
    · exact kw (by simp)
    · exact nm_wd (g.rnm c hc)
    · rcases List.mem_append.mp k1 with z | z
      · obtain ⟨b, hb, e⟩ := List.mem_map.mp z
        rw [← e]
        exact nm_wd (g.bfn hb)
      · rw [List.mem_singleton.mp z]
        exact kw (by simp)
    · exact ttxt_wd (by omega)
    · exact num_wd (by omega)
end
theorem kind32 (x : Str) : ¬ Builtin.Str.strKind x < Builtin.Str.strKind (" " : Str) := by
  have : Builtin.Str.strKind (" " : Str) = 1 := by decide +kernel
  rw [this]
  unfold Builtin.Str.strKind
  split <;> (try split) <;> omega
theorem filter_tl : ∀ xs : List Str, (xs.filter fun w => decide (w ≠ ("" : Str))).map tl = (xs.map tl).filter fun w => decide (w ≠ [])
  | [] => rfl
  | x :: xs => by
    have ih := filter_tl xs
    have e : (x ≠ ("" : Str)) ↔ tl x ≠ [] := by
      constructor
      · intro h z
        exact h (TL.ext_tl z)
      · intro h z
        exact h (by rw [z]; decide +kernel)
    by_cases h : x ≠ ("" : Str)
    · have h2 := e.mp h
      rw [List.filter_cons_of_pos (by simpa using h), List.map_cons, List.map_cons, List.filter_cons_of_pos (by simpa using h2), ih]
    · have h2 : ¬ tl x ≠ [] := fun z => h (e.mpr z)
      rw [List.filter_cons_of_neg (by simpa using h), List.map_cons, List.filter_cons_of_neg (by simpa using h2), ih]
theorem words_tl {l a : Str} (h : (Txt.partition l ("#" : Str)).1 = a) : (wordsOf l).map tl = sepW (tl a) := by
  unfold wordsOf sepW
  rw [filter_tl, h, TL.split_spl a " " (by decide +kernel) (kind32 a), show tl (" " : Str) = [32] from by decide +kernel]
theorem spl_count : ∀ (l : List Nat) (k : Nat) (acc : List Nat), (TL.spl [32] k acc l).length ≤ l.length + 1
  | [], k, acc => by rw [TL.spl_nil]; simp
  | c :: r, 0, acc => by
    cases e : TL.pre [32] (c :: r) with
    | true =>
      rw [TL.spl_hit e, List.length_cons]
      have := spl_count r 0 []
      show (TL.spl [32] 0 [] r).length + 1 ≤ r.length + 1 + 1
      omega
    | false =>
      rw [TL.spl_miss e]
      have := spl_count r 0 (acc ++ [c])
      simp only [List.length_cons]
      omega
  | c :: r, k + 1, acc => by
    show (TL.spl [32] k acc r).length ≤ _
    have := spl_count r k acc
    simp only [List.length_cons]
    omega
theorem line_ok {l a : Str} (h : (Txt.partition l ("#" : Str)).1 = a) (hl : l.length ≤ 9000) (ha : a.length ≤ 9000) {ws : List Str} (hw : wordsOf l = ws) (wd : ∀ w ∈ ws, Wd w) (few : ws.length ≤ 1000) : LineOk l := by
  refine ⟨by omega, by rw [h]; omega, ?_, by rw [hw]; exact ⟨fun w hw => by have := (wd w hw).len; omega, fun w hw => (wd w hw).strOk, few⟩⟩
  rw [h]
  have e := congrArg List.length (TL.split_spl a " " (by decide +kernel) (kind32 a))
  rw [List.length_map, show tl (" " : Str) = [32] from by decide +kernel] at e
  rw [e]
  have := spl_count (tl a) 0 []
  rw [← TL.len_tl] at this
  omega
theorem tl_inj : ∀ {xs ys : List Str}, xs.map tl = ys.map tl → xs = ys := fun h => TL.map_tl_inj h
def bodyL (n g : Nat) (ws : List Str) (k : Nat) : List Nat := List.replicate n 32 ++ (TL.joinL (List.replicate (g + 1) 32) (ws.map tl) ++ List.replicate k 32)
theorem joinL_mem {S : List Nat} : ∀ {ws : List (List Nat)} {c : Nat}, c ∈ TL.joinL S ws → c ∈ S ∨ ∃ w ∈ ws, c ∈ w
  | [], c, h => by simp [TL.joinL] at h
  | [w], c, h => .inr ⟨w, by simp, h⟩
  | w :: v :: ws, c, h => by
    have h' : c ∈ w ++ (S ++ TL.joinL S (v :: ws)) := h
    rcases List.mem_append.mp h' with h | h
    · exact .inr ⟨w, by simp, h⟩
    · rcases List.mem_append.mp h with h | h
      · exact .inl h
      · rcases joinL_mem h with z | ⟨x, hx, z⟩
        · exact .inl z
        · exact .inr ⟨x, List.mem_cons_of_mem _ hx, z⟩
theorem body_free {n g k c : Nat} {ws : List Str} (wd : ∀ w ∈ ws, Wd w) (h : c ∈ bodyL n g ws k) : c ≠ 35 ∧ c ≠ 9 ∧ c ≠ 10 := by
  unfold bodyL at h
  have b : ∀ {n : Nat}, c ∈ List.replicate n 32 → c = 32 := fun h => List.eq_of_mem_replicate h
  rcases List.mem_append.mp h with h | h
  · have := b h; omega
  · rcases List.mem_append.mp h with h | h
    · rcases joinL_mem h with z | ⟨x, hx, z⟩
      · have := b z; omega
      · obtain ⟨y, hy, rfl⟩ := List.mem_map.mp hx
        have := (wd y hy).ok c z
        omega
    · have := b h; omega
theorem body_words {n g k : Nat} {ws : List Str} (wd : ∀ w ∈ ws, Wd w) : sepW (bodyL n g ws k) = ws.map tl := by
  unfold bodyL
  rw [sep_blanks, sep_join]
  intro w hw
  obtain ⟨y, hy, rfl⟩ := List.mem_map.mp hw
  exact ⟨(wd y hy).ne, fun z => ((wd y hy).ok 32 z).1 rfl⟩
theorem plain_line {l : Str} {n g k : Nat} {ws : List Str} (wd : ∀ w ∈ ws, Wd w) (e : tl l = bodyL n g ws k) : (Txt.partition l ("#" : Str)).1 = l ∧ wordsOf l = ws ∧ 9 ∉ tl l ∧ 10 ∉ tl l := by
  have f : ∀ {c : Nat}, c ∈ bodyL n g ws k → c ≠ 35 ∧ c ≠ 9 ∧ c ≠ 10 := fun h => body_free wd h
  have p : (Txt.partition l ("#" : Str)).1 = l := by
    rw [TL.partition_none (s := 35) (S := []) (by decide +kernel) (by rw [e]; exact fun z => (f z).1 rfl)]
  refine ⟨p, tl_inj ?_, by rw [e]; exact fun z => (f z).2.1 rfl, by rw [e]; exact fun z => (f z).2.2 rfl⟩
  rw [words_tl p, e, body_words wd]
theorem remark_line {a b : Str} {n g k : Nat} {ws : List Str} (wd : ∀ w ∈ ws, Wd w) (e : tl a = bodyL n g ws k) (hb : 9 ∉ tl b ∧ 10 ∉ tl b) : (Txt.partition (a ++ ("#" : Str) ++ b) ("#" : Str)).1 = a ∧ wordsOf (a ++ ("#" : Str) ++ b) = ws ∧ 9 ∉ tl (a ++ ("#" : Str) ++ b) ∧ 10 ∉ tl (a ++ ("#" : Str) ++ b) := by
  have f : ∀ {c : Nat}, c ∈ bodyL n g ws k → c ≠ 35 ∧ c ≠ 9 ∧ c ≠ 10 := fun h => body_free wd h
  have p : (Txt.partition (a ++ ("#" : Str) ++ b) ("#" : Str)).1 = a := by
    rw [TL.partition_app (s := 35) (S := []) (by decide +kernel) (by rw [e]; exact fun z => (f z).1 rfl)]
  have t : tl (a ++ ("#" : Str) ++ b) = tl a ++ [35] ++ tl b := by
    rw [TL.tl_append, TL.tl_append, show tl ("#" : Str) = [35] from by decide +kernel]
  refine ⟨p, tl_inj ?_, ?_, ?_⟩
  · rw [words_tl p, e, body_words wd]
  · rw [t, e]
    simp only [List.mem_append, List.mem_cons, List.not_mem_nil, or_false, not_or]
    exact ⟨⟨fun z => (f z).2.1 rfl, by decide⟩, hb.1⟩
  · rw [t, e]
    simp only [List.mem_append, List.mem_cons, List.not_mem_nil, or_false, not_or]
    exact ⟨⟨fun z => (f z).2.2 rfl, by decide⟩, hb.2⟩
section
variable {r : Rs}
theorem dropsG_rw {y : Int} : ∀ {ws : List Str} {r : Rs}, dropsG { r with rw := y } ws = (dropsG r ws).map fun q => { q with rw := y }
  | [], r => rfl
  | w :: ws, r => by
    have e : dropP { r with rw := y } w = (dropP r w).map fun q => { q with rw := y } := by
      unfold dropP
      cases numIn w with
      | none => rfl
      | some k =>
        simp only
        split <;> rfl
    show (dropP { r with rw := y } w).bind _ = ((dropP r w).bind _).map _
    rw [e]
    cases dropP r w with
    | none => rfl
    | some q => exact dropsG_rw
theorem if_map {c : Prop} [Decidable c] {x y : Option Rs} {f : Rs → Rs} (h : x = y.map f) : (if c then x else none) = (if c then y else none).map f := by
  by_cases q : c
  · rw [if_pos q, if_pos q, h]
  · rw [if_neg q, if_neg q]; rfl
theorem wentP_rw {y : Int} {ws : List Str} : wentP { r with rw := y } ws = (wentP r ws).map fun q => { q with rw := y } := by
  cases ws with
  | nil => rfl
  | cons w ws =>
    simp only [wentP]
    cases ordOf w with
    | none => rfl
    | some k =>
      simp only
      split
      · unfold lineP
        split
        · match ws with
          | [] => rfl
          | [n] => rfl
          | n :: u :: ws =>
            simp only [classP]
            split
            · cases hcIn (u :: ws) <;> rfl
            · rfl
        · split
          · match ws with
            | [] => rfl
            | [_] => rfl
            | [_, _] => rfl
            | [n, c, f] =>
              simp only [boatP]
              exact if_map rfl
            | _ :: _ :: _ :: _ :: _ => rfl
          · split
            · unfold dropsP
              split
              · exact dropsG_rw (r := { r with la := k })
              · rfl
            · match ws with
              | [] => rfl
              | [_] => rfl
              | [_, _] => rfl
              | [_, _, _] => rfl
              | [n, f, t, d] =>
                simp only [raceP]
                refine if_map ?_
                cases timeIn t with
                | none => rfl
                | some t => cases numIn d <;> rfl
              | _ :: _ :: _ :: _ :: _ :: _ => rfl
      · rfl
theorem lines_go : ∀ {ls : List Str} {k : Nat} {r r2 : Rs} {y : Int}, (∀ l ∈ ls, 9 ∉ l.cps.toList) → goP r ((ls.map wordsOf).filter fun w => decide (w ≠ [])) = some r2 → ∃ x : Int, linesP { r with rw := y } k ls = some { r2 with rw := x }
  | [], k, r, r2, y, _, h => by
    cases h
    exact ⟨y, rfl⟩
  | l :: ls, k, r, r2, y, ht, h => by
    have t := ht l (by simp)
    have ht' : ∀ x ∈ ls, 9 ∉ x.cps.toList := fun x hx => ht x (List.mem_cons_of_mem _ hx)
    by_cases q : wordsOf l = []
    · rw [List.map_cons, List.filter_cons_of_neg (by simpa using q)] at h
      obtain ⟨x, e⟩ := lines_go (k := k + 1) (y := (k : Int) + 1) ht' h
      refine ⟨x, ?_⟩
      show (stepP { r with rw := y } k l).bind _ = _
      rw [stepP, if_neg t, if_pos q]
      exact e
    · rw [List.map_cons, List.filter_cons_of_pos (by simpa using q)] at h
      have h' : (wentP r (wordsOf l)).bind (fun r' => goP r' ((ls.map wordsOf).filter fun w => decide (w ≠ []))) = some r2 := h
      rw [Option.bind_eq_some_iff] at h'
      obtain ⟨r1, h1, h2⟩ := h'
      obtain ⟨x, e⟩ := lines_go (k := k + 1) (y := (k : Int) + 1) ht' h2
      refine ⟨x, ?_⟩
      show (stepP { r with rw := y } k l).bind _ = _
      rw [stepP, if_neg t, if_neg q]
      have w : wentP { { r with rw := y } with rw := (k : Int) + 1 } (wordsOf l) = some { r1 with rw := (k : Int) + 1 } := by
        have := wentP_rw (r := r) (y := (k : Int) + 1) (ws := wordsOf l)
        rw [h1] at this
        exact this
      rw [w]
      exact e
end
theorem read_lines {xb xr : RL.Env → SRes} {sb : List (Str × Bool)} (hs : subGo sb "BadTime" = some true) {m : Mt} {nb nr : Nat} (g : Good nb nr m) (hnb : nb ≤ 24) (hnr : nr ≤ 12) {ls : List Str} (hne : ls ≠ []) (hf : ∀ l ∈ ls, 9 ∉ tl l ∧ 10 ∉ tl l) (hl : ∀ l ∈ ls, LineOk l)
    (hw : ((ls.map wordsOf).filter fun w => decide (w ≠ [])) = mtW m) (hx : (Txt.join ("\n" : Str) ls).length ≤ 100000) (few : ls.length ≤ 10000) : f_read xb xr sb [.str (Txt.join ("\n" : Str) ls)] = .ok (objO true m) [] := by
  obtain ⟨k, e⟩ := go_all g hnb hnr
  rw [← hw] at e
  obtain ⟨x, e2⟩ := lines_go (k := 0) (y := 0) (r := r0) (fun l hl => (hf l hl).1) e
  have sp : Txt.split (Txt.join ("\n" : Str) ls) ("\n" : Str) = ls := TL.split_join (s := 10) (S := []) (by decide +kernel) (by decide +kernel) hne fun p hp => (hf p hp).2
  have b0 := g.b0
  have := readM_eq (xb := xb) (xr := xr) hs hx (by rw [sp]; exact few) (by rw [sp]; exact hl) (r' := ⟨m.cs, m.bs, m.ds, m.rs, k, x⟩) (by rw [sp]; exact e2) (List.length_pos_iff.mp b0) (nb := nb) (nr := nr) g (by omega) (by omega)
  exact this
end RR
namespace RV
open PySem RL
def t__law_time_text_0 : RL.Env → SRes := (sRet (sM1 fJoin (sC (.str ":")) (sLst (sCons (sCall (on1 fStr) (sCons (s2 opFdiv (sVarB 0) (sC (.int 3600))) sNil)) (sCons (sSl (sCall (on1 fStr) (sCons (s2 opAdd (sC (.int 100)) (s2 opMod (s2 opFdiv (sVarB 0) (sC (.int 60))) (sC (.int 60)))) sNil)) (sPs (sC (.int 1))) sPn) (sCons (sSl (sCall (on1 fStr) (sCons (s2 opAdd (sC (.int 100)) (s2 opMod (sVarB 0) (sC (.int 60)))) sNil)) (sPs (sC (.int 1))) sPn) sNil))))))
def b__law_time_text : RL.Env → SRes := t__law_time_text_0
def f__law_time_text : List D → FR := runDef 1 [] b__law_time_text
def l__law_lines_0 : RL.Env → Res D := (sLc (sIter (sVar 6)) (.nm 8) [8] sYes (sCall (on1 fStr) (sCons (sVarB 8) sNil)))
def l__law_lines_1 : RL.Env → Res D := (sLc (sIter (sTo D.tp1 (sCl (sIx (sVarB 0) (sC (.int 0)))))) (.tp [(.nm 2), (.nm 6)]) [2, 6] sYes (sM1 fJoin (sC (.str " ")) (s2 opAdd (sLst (sCons (sC (.str "class")) (sCons (sVar 2) sNil))) l__law_lines_0)))
def t__law_lines_2 : RL.Env → SRes := (sAsg (.nm 1) false l__law_lines_1)
def l__law_lines_3 : RL.Env → Res D := (sLc (sIter (sCl (sIx (sVarB 0) (sC (.int 1))))) (.nm 7) [7] sYes (sM1 fJoin (sC (.str " ")) (s2 opAdd (sTup (sCons (sC (.str "boat")) sNil)) (sVarB 7))))
def t__law_lines_4 : RL.Env → SRes := (sMut mExtend (plVar 1) (sCons l__law_lines_3 sNil))
def l__law_lines_5 : RL.Env → Res D := (sLc (sIter (sCl (sIx (sVarB 0) (sC (.int 2))))) (.nm 8) [8] sYes (sCall (on1 fStr) (sCons (sVarB 8) sNil)))
def t__law_lines_6 : RL.Env → SRes := (sMut mAppend (plVar 1) (sCons (sM1 fJoin (sC (.str " ")) (s2 opAdd (sLst (sCons (sC (.str "drops")) sNil)) l__law_lines_5)) sNil))
def t__law_lines_7 : RL.Env → SRes := (sIfS (sTest (s2 opNe (sIx (sVarB 0) (sC (.int 2))) (sTup sNil))) t__law_lines_6 sNext)
def t__law_lines_8 : RL.Env → SRes := (sMut mAppend (plVar 1) (sCons (sM1 fJoin (sC (.str " ")) (sLst (sCons (sC (.str "race")) (sCons (sVar 2) (sCons (sVar 3) (sCons (sCallF 1 f__law_time_text (sCons (sVar 4) sNil)) (sCons (sCall (on1 fStr) (sCons (sVarB 5) sNil)) sNil))))))) sNil))
def t__law_lines_9 : RL.Env → SRes := (sFor (sIter (sCl (sIx (sVarB 0) (sC (.int 3))))) (.tp [(.nm 2), (.nm 3), (.nm 4), (.nm 5)])
    t__law_lines_8)
def b__law_lines : RL.Env → SRes := (sThen t__law_lines_2
    (sThen t__law_lines_4
    (sThen t__law_lines_7
    (sThen t__law_lines_9
    (sRetV 1)))))
def f__law_lines : List D → FR := runDef 9 [] b__law_lines
end RV
namespace RV
open PySem RL RM RG RR
open RT (num ttxt two two_len co co_len hun num3 num2 fStr_nat)
open TL (tl)
theorem join_strs {a : Str} {o : Bool} {ys : List Str} (h : joinOk a ys = true) : fJoin a (.lst o (ys.map .str)) = some (.str (Txt.join a ys)) := by
  simp only [fJoin, strsD_map, Option.bind_some, h, if_true]
theorem join_strsT {a : Str} {ys : List Str} (h : joinOk a ys = true) : fJoin a (.tup (ys.map .str)) = some (.str (Txt.join a ys)) := by
  simp only [fJoin, strsD_map, Option.bind_some, h, if_true]
theorem sum_le {c : Nat} : ∀ {ys : List Str}, (∀ y ∈ ys, y.length ≤ c) → (ys.map (·.length)).sum ≤ ys.length * c
  | [], _ => by simp
  | y :: ys, h => by
    have := sum_le fun z hz => h z (List.mem_cons_of_mem y hz)
    have := h y (by simp)
    rw [List.map_cons, List.sum_cons, List.length_cons, Nat.add_mul]
    omega
theorem joinOk_of {a : Str} {c n : Nat} {ys : List Str} (h : ∀ y ∈ ys, y.length ≤ c) (hn : ys.length ≤ n) (hc : n * c + n * a.length ≤ 16777216) : joinOk a ys = true := by
  unfold joinOk
  have h1 := sum_le h
  have h2 := Nat.mul_le_mul_right c hn
  have h3 := Nat.mul_le_mul_right a.length hn
  exact decide_eq_true (by omega)
abbrev sp : Str := " "
theorem sp_len : sp.length = 1 := by decide +kernel
theorem join_wd {o : Bool} {ws : List Str} (wd : ∀ w ∈ ws, Wd w) (h : ws.length ≤ 6) : fJoin sp (.lst o (ws.map .str)) = some (.str (Txt.join sp ws)) :=
  join_strs (joinOk_of (c := 100) (n := 6) (fun y hy => (wd y hy).len) h (by rw [sp_len]; omega))
theorem join3 {a b c : Str} {o : Bool} (ha : a.length ≤ 10) (hb : b.length ≤ 10) (hc : c.length ≤ 10) : fJoin co (.lst o [.str a, .str b, .str c]) = some (.str (a ++ co ++ b ++ co ++ c)) := by
  have e : Txt.join co [a, b, c] = a ++ co ++ b ++ co ++ c := by
    rw [TL.join_eq]
    show a ++ co ++ (b ++ co ++ c) = _
    apply TL.ext_tl
    simp only [TL.tl_append, List.append_assoc]
  have := join_strs (a := co) (o := o) (ys := [a, b, c]) (joinOk_of (c := 10) (n := 3) (fun y hy => by
    simp only [List.mem_cons, List.not_mem_nil, or_false] at hy
    rcases hy with rfl | rfl | rfl <;> assumption) (by simp) (by rw [co_len]; omega))
  rw [e] at this
  exact this
theorem ltime_eq {t : Nat} (h : t ≤ 359999) : f__law_time_text [.int t] = .ok (.str (ttxt t)) [] := by
  have q1 := fdiv_pos' (i := (t : Int)) (j := 60) (by decide) (by decide +kernel)
  have q2 := fdiv_pos' (i := (t : Int)) (j := 3600) (by decide) (by decide +kernel)
  have q3 := mod_pos' (i := (t : Int)) (j := 60) (by decide)
  have q4 := mod_pos' (i := (t : Int) / 60) (j := 60) (by decide)
  have c1 : (t : Int) / 60 % 60 = ((t / 60 % 60 : Nat) : Int) := by omega
  have c2 : (t : Int) % 60 = ((t % 60 : Nat) : Int) := by omega
  have c3 : (t : Int) / 3600 = ((t / 3600 : Nat) : Int) := by omega
  rw [c1] at q4
  rw [c2] at q3
  rw [c3] at q2
  have b1 : t / 60 % 60 < 60 := by omega
  have b2 : t % 60 < 60 := by omega
  have b3 : t / 3600 < 100 := by omega
  unfold ttxt
  generalize t / 60 % 60 = m at *
  generalize t % 60 = s at *
  generalize t / 3600 = a at *
  generalize (t : Int) / 60 = u at *
  have l1 : (num a).length ≤ 2 := (num2 ⟨a, b3⟩).2.2.2
  have h1 : L2.cutS (num (100 + m)) (some 1) none = two m := hun ⟨m, b1⟩
  have h2 : L2.cutS (num (100 + s)) (some 1) none = two s := hun ⟨s, b2⟩
  have n1 : (num (100 + m)).length ≤ 3 := num3 ⟨m, b1⟩
  have n2 : (num (100 + s)).length ≤ 3 := num3 ⟨s, b2⟩
  have s1 : fStr (.int (100 + (m : Int))) = some (.str (num (100 + m))) := fStr_nat (n := 100 + m) (by omega)
  have s2 : fStr (.int (100 + (s : Int))) = some (.str (num (100 + s))) := fStr_nat (n := 100 + s) (by omega)
  have s3 := fStr_nat (n := a) (by omega)
  have o1 : opSl (.str (num (100 + m))) (some 1) none = some (.str (two m)) := by
    rw [opSl, if_pos (by unfold sizeLine; omega), h1]
  have o2 : opSl (.str (num (100 + s))) (some 1) none = some (.str (two s)) := by
    rw [opSl, if_pos (by unfold sizeLine; omega), h2]
  have z3 : 3 ≤ sizeLine := by decide
  have j := join3 (a := num a) (b := two m) (c := two s) (o := true) (by omega) (by rw [two_len]; omega) (by rw [two_len]; omega)
  rw [f__law_time_text, runDef_ap]
  simp [b__law_time_text, t__law_time_text_0, entry, q1, q2, q3, q4, s1, s2, s3, o1, o2, z3, j]
section
variable {m : Mt} {nb nr : Nat}
def lineS (m : Mt) : List Str := (mtW m).map (Txt.join sp)
theorem hcW_map {h : RH.Hc} (k : HcOk h) : ∃ ds : List D, h.plain = .tup ds ∧ cleanL ds = true ∧ ds.length ≤ 10 ∧ lcRun (fun d => (opt (fStr d)).bind fun x => .ok (some x)) ds = some ((hcW h).map .str) := by
  cases h with
  | level => exact ⟨_, rfl, by simp, by simp, by simp [lcRun, fStr, hcW]⟩
  | factor b =>
    have hb : 1 ≤ b ∧ b ≤ 5000 := by rcases k with z | z; cases z; exact z
    have s := fStr_nat (n := b.toNat) (by omega)
    rw [show ((b.toNat : Nat) : Int) = b by omega] at s
    have s0 : ∀ x : Str, fStr (.str x) = some (.str x) := fun _ => rfl
    exact ⟨_, rfl, by simp, by simp, by simp [lcRun, s0, s, hcW]⟩
  | yard b =>
    have hb : 1 ≤ b ∧ b ≤ 5000 := by rcases k with z | z; cases z; exact z
    have s := fStr_nat (n := b.toNat) (by omega)
    rw [show ((b.toNat : Nat) : Int) = b by omega] at s
    have s0 : ∀ x : Str, fStr (.str x) = some (.str x) := fun _ => rfl
    exact ⟨_, rfl, by simp, by simp, by simp [lcRun, s0, s, hcW]⟩
  | mile b =>
    have hb : 1 ≤ b ∧ b ≤ 5000 := by rcases k with z | z; cases z; exact z
    have s := fStr_nat (n := b.toNat) (by omega)
    rw [show ((b.toNat : Nat) : Int) = b by omega] at s
    have s0 : ∀ x : Str, fStr (.str x) = some (.str x) := fun _ => rfl
    exact ⟨_, rfl, by simp, by simp, by simp [lcRun, s0, s, hcW]⟩
abbrev EN (m : Mt) (f n fl st di to bo : Option D) : RL.Env := [some m.D, f, n, fl, st, di, to, bo, none]
abbrev sL (xs : List Str) : D := .lst true (xs.map .str)
theorem cls_eq (g : Good nb nr m) (hnr : nr ≤ 12) : t__law_lines_2 (EN m none none none none none none none) = .nx (EN m (some (sL (m.cs.map fun c => Txt.join sp (clW c)))) none none none none none none) := by
  have h2 : 2 ≤ sizeLine := by decide
  have c6 := g.c6
  have i0 : opIx m.D (.int 0) = some (.tux (m.cs.map clD)) := rfl
  have l1 : l__law_lines_1 (EN m none none none none none none none) = .ok (sL (m.cs.map fun c => Txt.join sp (clW c))) := by
    show _ = Res.ok (D.lst true _)
    rw [List.map_map]
    refine lc_map (e := clD) (xs := m.cs) (g := fun c : ClT => D.str (Txt.join sp (clW c))) (by omega) (by simp [i0, cleanL_of clD_clean]) fun c hc => ?_
    obtain ⟨ds, e1, e2, e3, e4⟩ := hcW_map (g.chc c hc)
    have wd := mtW_wd g hnr (clW c) (by unfold mtW; simp [List.mem_map]; exact .inl ⟨c.1, c.2, hc, rfl⟩)
    have j : fJoin sp (sL (clW c)) = some (.str (Txt.join sp (clW c))) := join_wd (o := true) wd.2.2 wd.2.1
    have l0 : l__law_lines_0 [some m.D, none, some (.str c.1), none, none, none, some (.tup ds), none, none] = .ok (sL (hcW c.2)) := by
      have e5 : lcOne (.nm 8) [8] sYes (sCall (on1 fStr) (sCons (sVarB 8) sNil)) [some m.D, none, some (.str c.1), none, none, none, some (.tup ds), none, none] = fun d => (opt (fStr d)).bind fun x => .ok (some x) := funext fun d => by
        simp [lcOne, wipeE]
      exact sLc_ok (ds := ds) (by simp [e2]) (by unfold sizeLine; omega) (by rw [e5]; exact e4)
    have ad : opAdd (.lst true [.str "class", .str c.1]) (sL (hcW c.2)) = some (sL (clW c)) := by
      have wl := wd.2.1
      have : (hcW c.2).length ≤ 6 := by simp [clW] at wl; omega
      rw [opAdd_l (by simp) cleanL_strs (by simp [sizeLine]; omega)]
      rfl
    have st : (Tg.tp [.nm 2, .nm 6]).set (clD c) (wipeE (EN m none none none none none none none) [2, 6]) = some [some m.D, none, some (.str c.1), none, none, none, some (.tup ds), none, none] := by
      simp [clD, e1, wipeE]
    rw [lcOne, st]
    generalize sL (hcW c.2) = A at *
    generalize sL (clW c) = B at *
    simp [l0, ad, j, h2]
  rw [t__law_lines_2, sAsg_ap, l1, stm_ok]
  rfl
theorem bts_eq (g : Good nb nr m) (hnb : nb ≤ 24) (hnr : nr ≤ 12) {xs : List Str} (hx : xs.length ≤ 100) {a b c d e f : Option D} : t__law_lines_4 (EN m (some (sL xs)) a b c d e f) = .nx (EN m (some (sL (xs ++ m.bs.map fun c => Txt.join sp (btW c)))) a b c d e f) := by
  have h1 : 1 ≤ sizeLine := by decide
  have bn := g.bn
  have i1 : opIx m.D (.int 1) = some (.tup (m.bs.map boatD)) := rfl
  have l3 : l__law_lines_3 (EN m (some (sL xs)) a b c d e f) = .ok (sL (m.bs.map fun c => Txt.join sp (btW c))) := by
    have rr : sL (m.bs.map fun c => Txt.join sp (btW c)) = .lst true (m.bs.map fun c : BtT => D.str (Txt.join sp (btW c))) := by
      show D.lst true _ = _
      rw [List.map_map]
      rfl
    rw [rr]
    generalize sL xs = A
    refine lc_map (e := boatD) (xs := m.bs) (g := fun c : BtT => D.str (Txt.join sp (btW c))) (by omega) (by simp [i1, cleanL_of boatD_clean]) fun q hq => ?_
    have wd := mtW_wd g hnr (btW q) (by unfold mtW; simp [List.mem_map]; exact .inr (.inl ⟨q.1, q.2.1, q.2.2, hq, rfl⟩))
    have j : fJoin sp (.tup [.str "boat", .str q.1, .str q.2.1, .str q.2.2]) = some (.str (Txt.join sp (btW q))) := join_strsT (ys := btW q) (joinOk_of (c := 100) (n := 6) (fun y hy => (wd.2.2 y hy).len) wd.2.1 (by rw [sp_len]; omega))
    have ad : opAdd (.tup [.str "boat"]) (boatD q) = some (.tup [.str "boat", .str q.1, .str q.2.1, .str q.2.2]) := by
      simp [opAdd, boatD, sizeLine]
    have cq := boatD_clean q
    generalize boatD q = Q at *
    simp [lcOne, wipeE, ad, j, h1]
  have me : mExtend (sL xs) [sL (m.bs.map fun c => Txt.join sp (btW c))] = some (sL (xs ++ m.bs.map fun c => Txt.join sp (btW c))) := by
    have : xs.length + m.bs.length ≤ sizeLine := by unfold sizeLine; omega
    simp [mExtend, this]
  have il : isLstO (sL xs) = true := rfl
  generalize sL xs = A at *
  generalize sL (m.bs.map fun c => Txt.join sp (btW c)) = B at *
  simp [t__law_lines_4, il, l3, me]
theorem num_str {i : Int} (h : 0 ≤ i) (h2 : i ≤ 9999) : fStr (.int i) = some (.str (num i.toNat)) := by
  have s := fStr_nat (n := i.toNat) (by omega)
  rwa [show ((i.toNat : Nat) : Int) = i by omega] at s
def drS (m : Mt) : List Str := if m.ds = [] then [] else [Txt.join sp (drW m.ds)]
theorem drs_eq (g : Good nb nr m) (hnr : nr ≤ 12) {xs : List Str} (hx : xs.length ≤ 100) {a b c d e f : Option D} : t__law_lines_7 (EN m (some (sL xs)) a b c d e f) = .nx (EN m (some (sL (xs ++ drS m))) a b c d e f) := by
  have h1 : 1 ≤ sizeLine := by decide
  have z0 : 0 ≤ sizeLine := by decide
  have d3 := g.d3
  have i2 : opIx m.D (.int 2) = some (.tup (m.ds.map .int)) := rfl
  have ne : opNe (.tup (m.ds.map .int)) (.tup []) = some (.bl (!decide (m.ds = []))) := by
    have f1 : (D.tup (m.ds.map .int)).fit = true := by
      unfold D.fit
      rw [show (60 : Nat) = 59 + 1 from rfl]
      simp [fitN, List.all_map]
    have f2 : (D.tup []).fit = true := rfl
    have e : PyData.eqv (D.tup (m.ds.map .int)).py (D.tup []).py = decide (m.ds = []) := by
      cases m.ds with
      | nil => simp [D.py, pyL, PyData.eqv, PyData.eqvAll]
      | cons x xs => simp [D.py, pyL, PyData.eqv, PyData.eqvAll]
    simp only [opNe, strs?, f1, f2, and_self, if_true, e]
  by_cases h : m.ds = []
  · rw [decide_eq_true h] at ne
    have eS : drS m = [] := if_pos h
    rw [eS, List.append_nil]
    generalize sL xs = A at *
    simp [t__law_lines_7, i2, ne, z0]
  · rw [decide_eq_false h] at ne
    have eS : drS m = [Txt.join sp (drW m.ds)] := if_neg h
    have wd := mtW_wd g hnr (drW m.ds) (by unfold mtW; simp [h])
    have j : fJoin sp (sL (drW m.ds)) = some (.str (Txt.join sp (drW m.ds))) := join_wd (o := true) wd.2.2 wd.2.1
    have l5 : l__law_lines_5 (EN m (some (sL xs)) a b c d e f) = .ok (.lst true (m.ds.map fun d => .str (num d.toNat))) := by
      generalize sL xs = A at *
      refine lc_map (e := D.int) (xs := m.ds) (g := fun d : Int => D.str (num d.toNat)) (by omega) (by simp [i2]) fun q hq => ?_
      have := g.din q hq
      have s := num_str (i := q) (by omega) (by omega)
      simp [lcOne, wipeE, s]
    have ad : opAdd (.lst true [.str "drops"]) (.lst true (m.ds.map fun d => .str (num d.toNat))) = some (sL (drW m.ds)) := by
      rw [opAdd_l (by simp) (clean_of (v := fun d : Int => D.str (num d.toNat)) fun _ _ => rfl) (by simp [sizeLine]; omega)]
      simp [sL, drW]
    have ap : mAppend (sL xs) [.str (Txt.join sp (drW m.ds))] = some (sL (xs ++ [Txt.join sp (drW m.ds)])) := by
      have : xs.length < sizeLine := by unfold sizeLine; omega
      simp [this]
    rw [eS]
    have t : sTest (s2 opNe (sIx (sVarB 0) (sC (.int 2))) (sTup sNil)) (EN m (some (sL xs)) a b c d e f) = .ok true := by
      simp [i2, ne, z0]
    have il : isLstO (sL xs) = true := rfl
    rw [t__law_lines_7, sIfS_ap, t, stm_ok, if_pos rfl]
    generalize D.lst true (m.ds.map fun d => .str (num d.toNat)) = V at *
    generalize sL (drW m.ds) = U at *
    generalize sL (xs ++ [Txt.join sp (drW m.ds)]) = W at *
    generalize sL xs = A at *
    simp [t__law_lines_6, il, l5, ad, j, ap, h1]
theorem rc_step' (g : Good nb nr m) (hnr : nr ≤ 12) {c : RcT} (hc : c ∈ m.rs) {xs : List Str} (hx : xs.length ≤ 100) {a b d : Option D} : t__law_lines_8 [some m.D, some (sL xs), some (.str c.1), some (.str c.2.1), some (.int c.2.2.1), some (.int c.2.2.2), a, b, d] = .nx [some m.D, some (sL (xs ++ [Txt.join sp (rcW c)])), some (.str c.1), some (.str c.2.1), some (.int c.2.2.1), some (.int c.2.2.2), a, b, d] := by
  have h5 : 5 ≤ sizeLine := by decide
  obtain ⟨k1, k2, k3, k4, k5⟩ := g.rok c hc
  have lt := ltime_eq (t := c.2.2.1.toNat) (by omega)
  rw [show ((c.2.2.1.toNat : Nat) : Int) = c.2.2.1 by omega] at lt
  have s := num_str k4 k5
  have wd := mtW_wd g hnr (rcW c) (by unfold mtW; simp [List.mem_map]; exact .inr (.inr (.inr ⟨c.1, c.2.1, c.2.2.1, c.2.2.2, hc, rfl⟩)))
  have j : fJoin sp (.lst true [.str "race", .str c.1, .str c.2.1, .str (ttxt c.2.2.1.toNat), .str (num c.2.2.2.toNat)]) = some (.str (Txt.join sp (rcW c))) := join_wd (o := true) wd.2.2 wd.2.1
  have ap : mAppend (sL xs) [.str (Txt.join sp (rcW c))] = some (sL (xs ++ [Txt.join sp (rcW c)])) := by
    have : xs.length < sizeLine := by unfold sizeLine; omega
    simp [this]
  have il : isLstO (sL xs) = true := rfl
  generalize sL (xs ++ [Txt.join sp (rcW c)]) = W at *
  generalize sL xs = A at *
  simp [t__law_lines_8, il, lt, s, j, ap, h5]
theorem lineS_eq : lineS m = m.cs.map (fun c => Txt.join sp (clW c)) ++ m.bs.map (fun c => Txt.join sp (btW c)) ++ drS m ++ m.rs.map (fun c => Txt.join sp (rcW c)) := by
  unfold lineS mtW drS
  by_cases h : m.ds = []
  · simp [h]; rfl
  · simp [h]; rfl
theorem lines_eq (g : Good nb nr m) (hnb : nb ≤ 24) (hnr : nr ≤ 12) : f__law_lines [m.D] = .ok (sL (lineS m)) [] := by
  have c6 := g.c6
  have bn := g.bn
  have rn := g.rn
  have dl : (drS m).length ≤ 1 := by unfold drS; split <;> simp
  have e2 := cls_eq g hnr
  have e4 := bts_eq g hnb hnr (xs := m.cs.map fun c => Txt.join sp (clW c)) (by simp; omega) (a := none) (b := none) (c := none) (d := none) (e := none) (f := none)
  have e7 := drs_eq g hnr (xs := (m.cs.map fun c => Txt.join sp (clW c)) ++ m.bs.map fun c => Txt.join sp (btW c)) (by simp; omega) (a := none) (b := none) (c := none) (d := none) (e := none) (f := none)
  obtain ⟨X, hX⟩ : ∃ X : List Str, X = (m.cs.map fun c => Txt.join sp (clW c)) ++ (m.bs.map fun c => Txt.join sp (btW c)) ++ drS m := ⟨_, rfl⟩
  have lX : X.length ≤ 31 := by rw [hX]; simp; omega
  have lS := lineS_eq (m := m)
  rw [← hX] at e7 lS
  obtain ⟨ρ, e9, a, b, c, d, rfl⟩ := for_of (e := raceD) (t := .tp [.nm 2, .nm 3, .nm 4, .nm 5]) (S := t__law_lines_8) (fun (p : List RcT) ρ => ∃ a b c d, ρ = EN m (some (sL (X ++ p.map fun c => Txt.join sp (rcW c)))) a b c d none none) (xs := m.rs) (ρ := EN m (some (sL X)) none none none none none none) ⟨none, none, none, none, by simp⟩ (by
    rintro p x q ρ he ⟨a, b, c, d, rfl⟩
    have hm : x ∈ m.rs := by rw [he]; simp
    have pl : p.length ≤ 12 := by rw [he] at rn; simp at rn; omega
    have st := rc_step' g hnr hm (xs := X ++ p.map fun c => Txt.join sp (rcW c)) (by simp; omega) (a := none) (b := none) (d := none)
    refine ⟨_, _, ?_, st, some (.str x.1), some (.str x.2.1), some (.int x.2.2.1), some (.int x.2.2.2), ?_⟩
    · generalize sL (X ++ p.map fun c => Txt.join sp (rcW c)) = A
      simp [raceD]
    · simp [List.append_assoc])
  have e9' : t__law_lines_9 (EN m (some (sL X)) none none none none none none) = .nx (EN m (some (sL (lineS m))) a b c d none none) := by
    have i3 : opIx m.D (.int 3) = some (.tup (m.rs.map raceD)) := rfl
    have it : (sIter (sCl (sIx (sVarB 0) (sC (.int 3))))) (EN m (some (sL X)) none none none none none none) = .ok (m.rs.map raceD) := by
      generalize sL X = A
      simp [i3, cleanL_of raceD_clean]
    rw [t__law_lines_9, sFor_ap, it, stm_ok, e9, lS]
  rw [f__law_lines, runDef_ap, show entry 9 [m.D] = EN m none none none none none none none from rfl]
  unfold b__law_lines
  rw [sThen_ap, e2, andThen_nx, sThen_ap, e4, andThen_nx, sThen_ap, e7, andThen_nx, sThen_ap, e9', andThen_nx]
  rfl
end
end RV
namespace Lk11
open PySem RL
def t_is_whole_0 : RL.Env → SRes := (sRet (sAnd (s1 (fIsTy "int") (sVarB 0)) (sNotV (s1 (fIsTy "bool") (sVarB 0)))))
def b_is_whole : RL.Env → SRes := t_is_whole_0
def f_is_whole : List D → FR := runDef 1 [] b_is_whole
def l_are_figures_0 : RL.Env → Res D := (sLc (sIter (sVar 0)) (.nm 3) [3] sYes (s2 oIn (sVarB 3) (sC (.str "0123456789"))))
def t_are_figures_1 : RL.Env → SRes := (sRet (sAnd (sChain opLe opLe (sVarB 1) (sCall (on1 fLenX) (sCons (sVarB 0) sNil)) (sVarB 2)) (sCall (on1 fAll) (sCons l_are_figures_0 sNil))))
def b_are_figures : RL.Env → SRes := t_are_figures_1
def f_are_figures : List D → FR := runDef 4 [] b_are_figures
def t_Handicap___init___0 : RL.Env → SRes := (sSetF cs_bearing "bearing" true (plVar 0) (sVar 1))
def b_Handicap___init__ : RL.Env → SRes := t_Handicap___init___0
def f_Handicap___init__ : List D → FR := runDef 2 [0] b_Handicap___init__
def t_Handicap_word_0 : RL.Env → SRes := (sRet (sC (.str "level")))
def b_Handicap_word : RL.Env → SRes := t_Handicap_word_0
def f_Handicap_word : List D → FR := runDef 1 [] b_Handicap_word
def t_FactorHandicap_word_0 : RL.Env → SRes := (sRet (sC (.str "factor")))
def b_FactorHandicap_word : RL.Env → SRes := t_FactorHandicap_word_0
def f_FactorHandicap_word : List D → FR := runDef 1 [] b_FactorHandicap_word
def t_YardHandicap_word_0 : RL.Env → SRes := (sRet (sC (.str "yard")))
def b_YardHandicap_word : RL.Env → SRes := t_YardHandicap_word_0
def f_YardHandicap_word : List D → FR := runDef 1 [] b_YardHandicap_word
def t_MileHandicap_word_0 : RL.Env → SRes := (sRet (sC (.str "mile")))
def b_MileHandicap_word : RL.Env → SRes := t_MileHandicap_word_0
def f_MileHandicap_word : List D → FR := runDef 1 [] b_MileHandicap_word
def t_is_in_0 : RL.Env → SRes := (sRet (sAnd (s1 (fIsTy "str") (sVarB 0)) (s2 oIn (sVarB 0) (sVarB 1))))
def b_is_in : RL.Env → SRes := t_is_in_0
def f_is_in : List D → FR := runDef 2 [] b_is_in
def l_Meeting_fleets_0 : RL.Env → Res D := (sLc (sVals (sCl (sFld cs_crews "crews" (sVarB 0)))) (.nm 1) [1] sYes (sTup (sCons (sCl (sIx (sVarB 1) (sC (.int 2)))) (sCons (sC (.bl true)) sNil))))
def t_Meeting_fleets_1 : RL.Env → SRes := (sRet (sCall (on1 fListX) (sCons (s1 fDict l_Meeting_fleets_0) sNil)))
def b_Meeting_fleets : RL.Env → SRes := t_Meeting_fleets_1
def f_Meeting_fleets : List D → FR := runDef 2 [] b_Meeting_fleets
def l_is_name_0 : RL.Env → Res D := (sLc (sIter (sVar 0)) (.nm 1) [1] sYes (s2 oIn (sVarB 1) (sC (.str "abcdefghijklmnopqrstuvwxyz0123456789"))))
def t_is_name_1 : RL.Env → SRes := (sRet (sAnd (sChain opLe opLe (sC (.int 1)) (sCall (on1 fLenX) (sCons (sVarB 0) sNil)) (sC (.int 6))) (sAnd (s2 opNe (sVarB 0) (sC (.str "all"))) (sCall (on1 fAll) (sCons l_is_name_0 sNil)))))
def b_is_name : RL.Env → SRes := t_is_name_1
def f_is_name : List D → FR := runDef 2 [] b_is_name
def t_Reader___init___0 : RL.Env → SRes := (sSetF cs_classes_R "classes" false (plVar 0) (sLst sNil))
def t_Reader___init___1 : RL.Env → SRes := (sSetF cs_crews_R "crews" false (plVar 0) (sLst sNil))
def t_Reader___init___2 : RL.Env → SRes := (sSetF cs_limits_R "limits" false (plVar 0) (sLst sNil))
def t_Reader___init___3 : RL.Env → SRes := (sSetF cs_runs_R "runs" false (plVar 0) (sLst sNil))
def t_Reader___init___4 : RL.Env → SRes := (sSetF cs_last_R "last" true (plVar 0) (sC (.int 0)))
def t_Reader___init___5 : RL.Env → SRes := (sSetF cs_row_R "row" true (plVar 0) (sC (.int 0)))
def b_Reader___init__ : RL.Env → SRes := (sThen t_Reader___init___0
    (sThen t_Reader___init___1
    (sThen t_Reader___init___2
    (sThen t_Reader___init___3
    (sThen t_Reader___init___4
    t_Reader___init___5)))))
def f_Reader___init__ : List D → FR := runDef 1 [0] b_Reader___init__
def t_Reader_need_0 : RL.Env → SRes := (sIfS (sNot (sTest (sVar 1))) (fun _ => SRes.bad) sNext)
def b_Reader_need : RL.Env → SRes := t_Reader_need_0
def f_Reader_need : List D → FR := runDef 2 [] b_Reader_need
def l_Reader_fleets_0 : RL.Env → Res D := (sLc (sIter (sCl (sFld cs_crews_R "crews" (sVarB 0)))) (.nm 1) [1] sYes (sTup (sCons (sCl (sIx (sVarB 1) (sC (.int 2)))) (sCons (sC (.bl true)) sNil))))
def t_Reader_fleets_1 : RL.Env → SRes := (sRet (sCall (on1 fListX) (sCons (s1 fDict l_Reader_fleets_0) sNil)))
def b_Reader_fleets : RL.Env → SRes := t_Reader_fleets_1
def f_Reader_fleets : List D → FR := runDef 2 [] b_Reader_fleets
def t__law_cell_at_0 : RL.Env → SRes := (sRet (sCl (sIx (sVarB 0) (sVarB 1))))
def t__law_cell_at_1 : RL.Env → SRes := (sIfS (sTest (s2 opLt (sVarB 1) (sCall (on1 fLenX) (sCons (sVarB 0) sNil)))) t__law_cell_at_0 sNext)
def b__law_cell_at : RL.Env → SRes := (sThen t__law_cell_at_1
    (sRet (sC (.int 0))))
def f__law_cell_at : List D → FR := runDef 2 [] b__law_cell_at
def t__law_mixed_0 : RL.Env → SRes := (sAsg (.nm 2) true (s2 opMod (s2 opAdd (s2 opAdd (s2 opMul (sVarB 0) (sC (.int 48271))) (s2 opMul (sC (.int 7919)) (sVarB 1))) (sC (.int 11))) (sC (.int 1000003))))
def t__law_mixed_1 : RL.Env → SRes := (sRet (s2 opMod (s2 opMul (s2 opMod (s2 opMul (sVarB 2) (sVarB 2)) (sC (.int 1000003))) (sVarB 2)) (sC (.int 1000003))))
def b__law_mixed : RL.Env → SRes := (sThen t__law_mixed_0
    t__law_mixed_1)
def f__law_mixed : List D → FR := runDef 3 [] b__law_mixed
def t__law_time_text_0 : RL.Env → SRes := (sRet (sM1 fJoin (sC (.str ":")) (sLst (sCons (sCall (on1 fStr) (sCons (s2 opFdiv (sVarB 0) (sC (.int 3600))) sNil)) (sCons (sSl (sCall (on1 fStr) (sCons (s2 opAdd (sC (.int 100)) (s2 opMod (s2 opFdiv (sVarB 0) (sC (.int 60))) (sC (.int 60)))) sNil)) (sPs (sC (.int 1))) sPn) (sCons (sSl (sCall (on1 fStr) (sCons (s2 opAdd (sC (.int 100)) (s2 opMod (sVarB 0) (sC (.int 60)))) sNil)) (sPs (sC (.int 1))) sPn) sNil))))))
def b__law_time_text : RL.Env → SRes := t__law_time_text_0
def f__law_time_text : List D → FR := runDef 1 [] b__law_time_text
def t_is_time_0 : RL.Env → SRes := (sRet (sAnd (sCallF 1 f_is_whole (sCons (sVar 0) sNil)) (sChain opLe opLe (sC (.int 0)) (sVarB 0) (sC (.int 359999)))))
def b_is_time : RL.Env → SRes := t_is_time_0
def f_is_time : List D → FR := runDef 1 [] b_is_time
def t_time_read_0 : RL.Env → SRes := (sAsg (.nm 1) true (sIf (sTest (s1 (fIsTy "str") (sVarB 0))) (sM1 fSplit (sVarB 0) (sC (.str ":"))) (sLst sNil)))
def t_time_read_1 : RL.Env → SRes := (sIfS (sOrT (sTest (s2 opNe (sCall (on1 fLenX) (sCons (sVarB 1) sNil)) (sC (.int 3)))) (sNot (sTest (sCallF 3 f_are_figures (sCons (sCl (sIx (sVarB 1) (sC (.int 0)))) (sCons (sC (.int 1)) (sCons (sC (.int 2)) sNil))))))) (sRaise "BadTime") sNext)
def t_time_read_2 : RL.Env → SRes := (sIfS (sOrT (sNot (sTest (sCallF 3 f_are_figures (sCons (sCl (sIx (sVarB 1) (sC (.int 1)))) (sCons (sC (.int 2)) (sCons (sC (.int 2)) sNil)))))) (sNot (sTest (sCallF 3 f_are_figures (sCons (sCl (sIx (sVarB 1) (sC (.int 2)))) (sCons (sC (.int 2)) (sCons (sC (.int 2)) sNil))))))) (sRaise "BadTime") sNext)
def l_time_read_3 : RL.Env → Res D := (sLc (sIter (sVar 1)) (.nm 5) [5] sYes (sCall (on1 fInt) (sCons (sVarB 5) sNil)))
def t_time_read_4 : RL.Env → SRes := (sAsg (.tp [(.nm 2), (.nm 3), (.nm 4)]) true l_time_read_3)
def t_time_read_5 : RL.Env → SRes := (sIfS (sOrT (sTest (s2 opNe (sCall (on1 fStr) (sCons (sVarB 2) sNil)) (sIx (sVarB 1) (sC (.int 0))))) (sOrT (sTest (s2 opGe (sVarB 3) (sC (.int 60)))) (sTest (s2 opGe (sVarB 4) (sC (.int 60)))))) (sRaise "BadTime") sNext)
def t_time_read_6 : RL.Env → SRes := (sRet (s2 opAdd (s2 opAdd (s2 opMul (sC (.int 3600)) (sVarB 2)) (s2 opMul (sC (.int 60)) (sVarB 3))) (sVarB 4)))
def b_time_read : RL.Env → SRes := (sThen t_time_read_0
    (sThen t_time_read_1
    (sThen t_time_read_2
    (sThen t_time_read_4
    (sThen t_time_read_5
    t_time_read_6)))))
def f_time_read : List D → FR := runDef 6 [] b_time_read
abbrev tab_word : List (Str × (List D → FR)) := [("LevelHandicap", f_Handicap_word), ("FactorHandicap", f_FactorHandicap_word), ("YardHandicap", f_YardHandicap_word), ("MileHandicap", f_MileHandicap_word)]
def t_Handicap_plain_0 : RL.Env → SRes := (sRet (sTup (sCons (sMeth "word" tab_word 1 (sVar 0) sNil) (sCons (sCl (sFld cs_bearing "bearing" (sVarB 0))) sNil))))
def b_Handicap_plain : RL.Env → SRes := t_Handicap_plain_0
def f_Handicap_plain : List D → FR := runDef 1 [] b_Handicap_plain
def t_Handicap_text_0 : RL.Env → SRes := (sRet (s2 opAdd (s2 opAdd (sMeth "word" tab_word 1 (sVar 0) sNil) (sC (.str " "))) (sCall (on1 fStr) (sCons (sFld cs_bearing "bearing" (sVarB 0)) sNil))))
def b_Handicap_text : RL.Env → SRes := t_Handicap_text_0
def f_Handicap_text : List D → FR := runDef 1 [] b_Handicap_text
abbrev tab_word1 : List (Str × (List D → FR)) := [("LevelHandicap", f_Handicap_word)]
def t_LevelHandicap_plain_0 : RL.Env → SRes := (sRet (sTup (sCons (sMeth "word" tab_word1 1 (sVar 0) sNil) sNil)))
def b_LevelHandicap_plain : RL.Env → SRes := t_LevelHandicap_plain_0
def f_LevelHandicap_plain : List D → FR := runDef 1 [] b_LevelHandicap_plain
def t_LevelHandicap_text_0 : RL.Env → SRes := (sRet (sMeth "word" tab_word1 1 (sVar 0) sNil))
def b_LevelHandicap_text : RL.Env → SRes := t_LevelHandicap_text_0
def f_LevelHandicap_text : List D → FR := runDef 1 [] b_LevelHandicap_text
def t_Meeting_boat_0 : RL.Env → SRes := (sIfS (sNot (sTest (sCallF 2 f_is_in (sCons (sVar 1) (sCons (sCl (sFld cs_crews "crews" (sVarB 0))) sNil))))) (sRaise "NoName") sNext)
def t_Meeting_boat_1 : RL.Env → SRes := (sRet (sCl (sIx (sFld cs_crews "crews" (sVarB 0)) (sVarB 1))))
def b_Meeting_boat : RL.Env → SRes := (sThen t_Meeting_boat_0
    t_Meeting_boat_1)
def f_Meeting_boat : List D → FR := runDef 2 [] b_Meeting_boat
def t_number_in_0 : RL.Env → SRes := (sIfS (sOrT (sNot (sTest (sCallF 3 f_are_figures (sCons (sVar 0) (sCons (sC (.int 1)) (sCons (sC (.int 4)) sNil)))))) (sAndT (sTest (s2 opEq (sIx (sVarB 0) (sC (.int 0))) (sC (.str "0")))) (sTest (s2 opNe (sVarB 0) (sC (.str "0")))))) (sRet (sC .non)) sNext)
def t_number_in_1 : RL.Env → SRes := (sRet (sCall (on1 fInt) (sCons (sVarB 0) sNil)))
def b_number_in : RL.Env → SRes := (sThen t_number_in_0
    t_number_in_1)
def f_number_in : List D → FR := runDef 1 [] b_number_in
abbrev tab_need : List (Str × (List D → FR)) := [("Reader", f_Reader_need)]
def l_Reader_need_name_0 : RL.Env → Res D := (sLc (sIter (sVar 2)) (.nm 3) [3] sYes (sCl (sIx (sVarB 3) (sC (.int 0)))))
def t_Reader_need_name_1 : RL.Env → SRes := (sExpr (sMeth "need" tab_need 2 (sVar 0) (sCons (sAnd (sCallF 1 f_is_name (sCons (sVar 1) sNil)) (s2 oNotIn (sVarB 1) l_Reader_need_name_0)) sNil)))
def b_Reader_need_name : RL.Env → SRes := t_Reader_need_name_1
def f_Reader_need_name : List D → FR := runDef 4 [] b_Reader_need_name
def t__law_names_0 : RL.Env → SRes := (sAsg (.nm 2) true (sC (.str "abcdefghijklmnopqrstuvwxyz0123456789")))
def l__law_names_1 : RL.Env → Res D := (sLc (sI rng1 (sCons (sC (.int 6)) sNil)) (.nm 10) [10] sYes (sCl (sIx (sVarB 2) (s2 opMod (sCallF 2 f__law_mixed (sCons (sVar 0) (sCons (sVar 10) sNil))) (sC (.int 36))))))
def t__law_names_2 : RL.Env → SRes := (sAsg (.nm 3) true l__law_names_1)
def t__law_names_3 : RL.Env → SRes := (sAsg (.nm 4) true (s2 opMod (sCallF 2 f__law_mixed (sCons (sVar 0) (sCons (sC (.int 8)) sNil))) (sC (.int 6))))
def t__law_names_4 : RL.Env → SRes := (sAsg (.nm 5) true (s2 opAdd (s2 opAdd (sVarB 4) (sC (.int 1))) (s2 opMod (sCallF 2 f__law_mixed (sCons (sVar 0) (sCons (sC (.int 9)) sNil))) (s2 opSub (sC (.int 6)) (sVarB 4)))))
def t__law_names_5 : RL.Env → SRes := (sAsg (.nm 6) true (sIx (sLst (sCons (sC (.int 1)) (sCons (sC (.int 5)) (sCons (sC (.int 7)) (sCons (sC (.int 11)) (sCons (sC (.int 13)) (sCons (sC (.int 17)) sNil))))))) (s2 opMod (sCallF 2 f__law_mixed (sCons (sVar 0) (sCons (sC (.int 10)) sNil))) (sC (.int 6)))))
def t__law_names_6 : RL.Env → SRes := (sAsg (.nm 7) false (sLst sNil))
def t__law_names_7 : RL.Env → SRes := (sAsg (.nm 9) true (sCl (sIx (sVarB 2) (s2 opMod (s2 opAdd (sCallF 2 f__law_mixed (sCons (sVar 0) (sCons (sC (.int 11)) sNil))) (s2 opMul (sVarB 6) (sVarB 8))) (sC (.int 36))))))
def t__law_names_8 : RL.Env → SRes := (sMut mAppend (plVar 7) (sCons (sM1 fJoin (sC (.str "")) (s2 opAdd (s2 opAdd (sSl (sVarB 3) sPn (sPs (sVarB 4))) (sLst (sCons (sVar 9) sNil))) (sSl (sVarB 3) (sPs (s2 opAdd (sVarB 4) (sC (.int 1)))) (sPs (sVarB 5))))) sNil))
def k__law_names_9 : RL.Env → SRes := (sThen t__law_names_7
    t__law_names_8)
def t__law_names_9 : RL.Env → SRes := (sFor (sI rng1 (sCons (s2 opAdd (sVarB 1) (sC (.int 1))) sNil)) (.nm 8)
    k__law_names_9)
def l__law_names_10 : RL.Env → Res D := (sLc (sSeq (sVarB 7)) (.nm 11) [11] (sTest (s2 opNe (sVarB 11) (sC (.str "all")))) (sVar 11))
def t__law_names_11 : RL.Env → SRes := (sRet (sSl l__law_names_10 sPn (sPs (sVarB 1))))
def b__law_names : RL.Env → SRes := (sThen t__law_names_0
    (sThen t__law_names_2
    (sThen t__law_names_3
    (sThen t__law_names_4
    (sThen t__law_names_5
    (sThen t__law_names_6
    (sThen t__law_names_9
    t__law_names_11)))))))
def f__law_names : List D → FR := runDef 12 [] b__law_names
def t__law_handicap_0 : RL.Env → SRes := (sAsg (.nm 1) true (sIx (sLst (sCons (sC (.int 1000)) (sCons (s2 opAdd (sC (.int 1)) (s2 opMod (sCallF 2 f__law_mixed (sCons (sVar 0) (sCons (sC (.int 31)) sNil))) (sC (.int 5000)))) (sCons (s2 opAdd (sC (.int 900)) (s2 opMod (sCallF 2 f__law_mixed (sCons (sVar 0) (sCons (sC (.int 31)) sNil))) (sC (.int 200)))) sNil)))) (s2 opMod (sCallF 2 f__law_mixed (sCons (sVar 0) (sCons (sC (.int 32)) sNil))) (sC (.int 3)))))
def t__law_handicap_1 : RL.Env → SRes := (sAsg (.nm 2) true (sIx (sLst (sCons (sC (.str "level")) (sCons (sC (.str "factor")) (sCons (sC (.str "yard")) (sCons (sC (.str "mile")) sNil))))) (s2 opMod (sCallF 2 f__law_mixed (sCons (sVar 0) (sCons (sC (.int 30)) sNil))) (sC (.int 4)))))
def t__law_handicap_2 : RL.Env → SRes := (sRet (sIf (sTest (s2 opEq (sVarB 2) (sC (.str "level")))) (sTup (sCons (sVar 2) sNil)) (sTup (sCons (sVar 2) (sCons (sVar 1) sNil)))))
def b__law_handicap : RL.Env → SRes := (sThen t__law_handicap_0
    (sThen t__law_handicap_1
    t__law_handicap_2))
def f__law_handicap : List D → FR := runDef 3 [] b__law_handicap
def l__law_lines_0 : RL.Env → Res D := (sLc (sIter (sVar 6)) (.nm 8) [8] sYes (sCall (on1 fStr) (sCons (sVarB 8) sNil)))
def l__law_lines_1 : RL.Env → Res D := (sLc (sIter (sTo D.tp1 (sCl (sIx (sVarB 0) (sC (.int 0)))))) (.tp [(.nm 2), (.nm 6)]) [2, 6] sYes (sM1 fJoin (sC (.str " ")) (s2 opAdd (sLst (sCons (sC (.str "class")) (sCons (sVar 2) sNil))) l__law_lines_0)))
def t__law_lines_2 : RL.Env → SRes := (sAsg (.nm 1) false l__law_lines_1)
def l__law_lines_3 : RL.Env → Res D := (sLc (sIter (sCl (sIx (sVarB 0) (sC (.int 1))))) (.nm 7) [7] sYes (sM1 fJoin (sC (.str " ")) (s2 opAdd (sTup (sCons (sC (.str "boat")) sNil)) (sVarB 7))))
def t__law_lines_4 : RL.Env → SRes := (sMut mExtend (plVar 1) (sCons l__law_lines_3 sNil))
def l__law_lines_5 : RL.Env → Res D := (sLc (sIter (sCl (sIx (sVarB 0) (sC (.int 2))))) (.nm 8) [8] sYes (sCall (on1 fStr) (sCons (sVarB 8) sNil)))
def t__law_lines_6 : RL.Env → SRes := (sMut mAppend (plVar 1) (sCons (sM1 fJoin (sC (.str " ")) (s2 opAdd (sLst (sCons (sC (.str "drops")) sNil)) l__law_lines_5)) sNil))
def t__law_lines_7 : RL.Env → SRes := (sIfS (sTest (s2 opNe (sIx (sVarB 0) (sC (.int 2))) (sTup sNil))) t__law_lines_6 sNext)
def t__law_lines_8 : RL.Env → SRes := (sMut mAppend (plVar 1) (sCons (sM1 fJoin (sC (.str " ")) (sLst (sCons (sC (.str "race")) (sCons (sVar 2) (sCons (sVar 3) (sCons (sCallF 1 f__law_time_text (sCons (sVar 4) sNil)) (sCons (sCall (on1 fStr) (sCons (sVarB 5) sNil)) sNil))))))) sNil))
def t__law_lines_9 : RL.Env → SRes := (sFor (sIter (sCl (sIx (sVarB 0) (sC (.int 3))))) (.tp [(.nm 2), (.nm 3), (.nm 4), (.nm 5)])
    t__law_lines_8)
def b__law_lines : RL.Env → SRes := (sThen t__law_lines_2
    (sThen t__law_lines_4
    (sThen t__law_lines_7
    (sThen t__law_lines_9
    (sRetV 1)))))
def f__law_lines : List D → FR := runDef 9 [] b__law_lines
def t__law_strewn_0 : RL.Env → SRes := (sAsg (.nm 2) false (sLst sNil))
def t__law_strewn_1 : RL.Env → SRes := (sAsg (.nm 5) true (sCallF 2 f__law_mixed (sCons (sVar 0) (sCons (s2 opAdd (sC (.int 400)) (sVarB 3)) sNil))))
def t__law_strewn_2 : RL.Env → SRes := (sMut mAppend (plVar 2) (sCons (sIx (sLst (sCons (sC (.str "")) (sCons (sC (.str "   ")) (sCons (sC (.str "# race a all 0:00:00 0")) (sCons (sC (.str " #")) (sCons (sC (.str "#drops 1")) sNil)))))) (s2 opMod (s2 opFdiv (sVarB 5) (sC (.int 5))) (sC (.int 5)))) sNil))
def t__law_strewn_3 : RL.Env → SRes := (sIfS (sTest (s2 opEq (s2 opMod (sVarB 5) (sC (.int 5))) (sC (.int 1)))) t__law_strewn_2 sNext)
def t__law_strewn_4 : RL.Env → SRes := (sAsg (.nm 6) true (sIx (sLst (sCons (sC (.str " ")) (sCons (sC (.str "  ")) (sCons (sC (.str "    ")) sNil)))) (s2 opMod (s2 opFdiv (sVarB 5) (sC (.int 25))) (sC (.int 3)))))
def t__law_strewn_5 : RL.Env → SRes := (sAsg (.nm 7) true (sIx (sLst (sCons (sC (.str "")) (sCons (sC (.str " ")) (sCons (sC (.str "#")) (sCons (sC (.str " # class a level")) (sCons (sC (.str "  #boat")) sNil)))))) (s2 opMod (s2 opFdiv (sVarB 5) (sC (.int 75))) (sC (.int 5)))))
def t__law_strewn_6 : RL.Env → SRes := (sMut mAppend (plVar 2) (sCons (s2 opAdd (s2 opAdd (s2 opMulA (sC (.str " ")) (s2 opMod (s2 opFdiv (sVarB 5) (sC (.int 375))) (sC (.int 4)))) (sM1 fJoin (sVarB 6) (sM1 fSplit (sVarB 4) (sC (.str " "))))) (sVarB 7)) sNil))
def k__law_strewn_7 : RL.Env → SRes := (sThen t__law_strewn_1
    (sThen t__law_strewn_3
    (sThen t__law_strewn_4
    (sThen t__law_strewn_5
    t__law_strewn_6))))
def t__law_strewn_7 : RL.Env → SRes := (sFor (sI enum1 (sCons (sVar 1) sNil)) (.tp [(.nm 3), (.nm 4)])
    k__law_strewn_7)
def t__law_strewn_8 : RL.Env → SRes := (sRet (sM1 fJoin (sC (.str "\n")) (s2 opAdd (sVarB 2) (sSl (sLst (sCons (sC (.str "")) (sCons (sC (.str "# 5")) sNil))) sPn (sPs (s2 opMod (sCallF 2 f__law_mixed (sCons (sVar 0) (sCons (sC (.int 500)) sNil))) (sC (.int 3))))))))
def b__law_strewn : RL.Env → SRes := (sThen t__law_strewn_0
    (sThen t__law_strewn_7
    t__law_strewn_8))
def f__law_strewn : List D → FR := runDef 8 [] b__law_strewn
def t_need_time_0 : RL.Env → SRes := (sIfS (sNot (sTest (sCallF 1 f_is_time (sCons (sVar 0) sNil)))) (sRaise "BadTime") sNext)
def b_need_time : RL.Env → SRes := t_need_time_0
def f_need_time : List D → FR := runDef 1 [] b_need_time
def t_handicap_of_0 : RL.Env → SRes := (sAsg (.nm 1) true (sCl (sIx (sVarB 0) (sC (.int 0)))))
def t_handicap_of_1 : RL.Env → SRes := (sRet (sMake "FactorHandicap" 2 f_Handicap___init__ (sCons (sCl (sIx (sVarB 0) (sC (.int 1)))) sNil)))
def t_handicap_of_2 : RL.Env → SRes := (sIfS (sTest (s2 opEq (sVarB 1) (sC (.str "factor")))) t_handicap_of_1 sNext)
def t_handicap_of_3 : RL.Env → SRes := (sRet (sMake "YardHandicap" 2 f_Handicap___init__ (sCons (sCl (sIx (sVarB 0) (sC (.int 1)))) sNil)))
def t_handicap_of_4 : RL.Env → SRes := (sIfS (sTest (s2 opEq (sVarB 1) (sC (.str "yard")))) t_handicap_of_3 sNext)
def t_handicap_of_5 : RL.Env → SRes := (sRet (sMake "MileHandicap" 2 f_Handicap___init__ (sCons (sCl (sIx (sVarB 0) (sC (.int 1)))) sNil)))
def t_handicap_of_6 : RL.Env → SRes := (sIfS (sTest (s2 opEq (sVarB 1) (sC (.str "mile")))) t_handicap_of_5 sNext)
def t_handicap_of_7 : RL.Env → SRes := (sRet (sMake "LevelHandicap" 2 f_Handicap___init__ (sCons (sC (.int 0)) sNil)))
def b_handicap_of : RL.Env → SRes := (sThen t_handicap_of_0
    (sThen t_handicap_of_2
    (sThen t_handicap_of_4
    (sThen t_handicap_of_6
    t_handicap_of_7))))
def f_handicap_of : List D → FR := runDef 2 [] b_handicap_of
abbrev tab_plain : List (Str × (List D → FR)) := [("LevelHandicap", f_LevelHandicap_plain), ("FactorHandicap", f_Handicap_plain), ("YardHandicap", f_Handicap_plain), ("MileHandicap", f_Handicap_plain)]
def l_Meeting_plain_0 : RL.Env → Res D := (sLc (sItems (sCl (sFld cs_kinds "kinds" (sVarB 0)))) (.tp [(.nm 2), (.nm 3)]) [2, 3] sYes (sTup (sCons (sVar 2) (sCons (sMeth "plain" tab_plain 1 (sVar 3) sNil) sNil))))
def t_Meeting_plain_1 : RL.Env → SRes := (sAsg (.nm 1) true (sCall (on1 fTuple) (sCons l_Meeting_plain_0 sNil)))
def t_Meeting_plain_2 : RL.Env → SRes := (sRet (sTup (sCons (sVar 1) (sCons (s1 fTupV (sFld cs_crews "crews" (sVarB 0))) (sCons (sCl (sFld cs_limits "limits" (sVarB 0))) (sCons (s1 fTupV (sFld cs_runs "runs" (sVarB 0))) sNil))))))
def b_Meeting_plain : RL.Env → SRes := (sThen t_Meeting_plain_1
    t_Meeting_plain_2)
def f_Meeting_plain : List D → FR := runDef 4 [] b_Meeting_plain
def t_time_in_0 : RL.Env → SRes := (sAsg (.nm 1) true (sC .non))
def t_time_in_1 : RL.Env → SRes := (sAsg (.nm 1) true (sCallF 1 f_time_read (sCons (sVar 0) sNil)))
def t_time_in_2 : RL.Env → SRes := (sAsg (.nm 1) true (sC .non))
def t_time_in_3 : RL.Env → SRes := (sTryH [(sub_BadTime, t_time_in_2)] t_time_in_1)
def b_time_in : RL.Env → SRes := (sThen t_time_in_0
    (sThen t_time_in_3
    (sRet (sVar 1))))
def f_time_in : List D → FR := runDef 2 [] b_time_in
def t_handicap_in_0 : RL.Env → SRes := (sRet (sTup (sCons (sC (.str "level")) sNil)))
def t_handicap_in_1 : RL.Env → SRes := (sIfS (sTest (s2 opEq (sVarB 0) (sLst (sCons (sC (.str "level")) sNil)))) t_handicap_in_0 sNext)
def t_handicap_in_2 : RL.Env → SRes := (sIfS (sOrT (sTest (s2 opNe (sCall (on1 fLenX) (sCons (sVarB 0) sNil)) (sC (.int 2)))) (sTest (s2 oNotIn (sIx (sVarB 0) (sC (.int 0))) (sC (.tup [.str "factor", .str "yard", .str "mile"]))))) (sRet (sC .non)) sNext)
def t_handicap_in_3 : RL.Env → SRes := (sAsg (.nm 1) true (sCallF 1 f_number_in (sCons (sCl (sIx (sVarB 0) (sC (.int 1)))) sNil)))
def t_handicap_in_4 : RL.Env → SRes := (sIfS (sOrT (sTest (s2 opIs (sVarB 1) (sC .non))) (sNot (sTest (sChain opLe opLe (sC (.int 1)) (sVarB 1) (sC (.int 5000)))))) (sRet (sC .non)) sNext)
def t_handicap_in_5 : RL.Env → SRes := (sRet (sTup (sCons (sCl (sIx (sVarB 0) (sC (.int 0)))) (sCons (sVar 1) sNil))))
def b_handicap_in : RL.Env → SRes := (sThen t_handicap_in_1
    (sThen t_handicap_in_2
    (sThen t_handicap_in_3
    (sThen t_handicap_in_4
    t_handicap_in_5))))
def f_handicap_in : List D → FR := runDef 2 [] b_handicap_in
abbrev tab_need_name : List (Str × (List D → FR)) := [("Reader", f_Reader_need_name)]
abbrev tab_fleets : List (Str × (List D → FR)) := [("Reader", f_Reader_fleets)]
def t_Reader_boat_line_0 : RL.Env → SRes := (sExpr (sViewL 0 (sMeth "need" tab_need 2 (sVar 0) (sCons (sAnd (s2 opLt (sCall (on1 fLenX) (sCons (sFld cs_crews_R "crews" (sVarB 0)) sNil)) (sC (.int 24))) (s2 opEq (sCall (on1 fLenX) (sCons (sVarB 1) sNil)) (sC (.int 3)))) sNil))))
def t_Reader_boat_line_1 : RL.Env → SRes := (sExpr (sViewL 0 (sMeth "need_name" tab_need_name 3 (sVar 0) (sCons (sCl (sIx (sVarB 1) (sC (.int 0)))) (sCons (sCl (sFld cs_crews_R "crews" (sVarB 0))) sNil)))))
def l_Reader_boat_line_2 : RL.Env → Res D := (sLc (sIter (sCl (sFld cs_classes_R "classes" (sVarB 0)))) (.nm 2) [2] sYes (sCl (sIx (sVarB 2) (sC (.int 0)))))
def t_Reader_boat_line_3 : RL.Env → SRes := (sExpr (sViewL 0 (sMeth "need" tab_need 2 (sVar 0) (sCons (sAnd (s2 oIn (sIx (sVarB 1) (sC (.int 1))) l_Reader_boat_line_2) (sCallF 1 f_is_name (sCons (sCl (sIx (sVarB 1) (sC (.int 2)))) sNil))) sNil))))
def t_Reader_boat_line_4 : RL.Env → SRes := (sExpr (sViewL 0 (sMeth "need" tab_need 2 (sVar 0) (sCons (sOr (s2 oIn (sIx (sVarB 1) (sC (.int 2))) (sMeth "fleets" tab_fleets 1 (sVar 0) sNil)) (s2 opLt (sCall (on1 fLenX) (sCons (sMeth "fleets" tab_fleets 1 (sVar 0) sNil) sNil)) (sC (.int 3)))) sNil))))
def t_Reader_boat_line_5 : RL.Env → SRes := (sMut mAppend (plFld cs_crews_R "crews" (plVar 0)) (sCons (sTup (sCons (sCl (sIx (sVarB 1) (sC (.int 0)))) (sCons (sCl (sIx (sVarB 1) (sC (.int 1)))) (sCons (sCl (sIx (sVarB 1) (sC (.int 2)))) sNil)))) sNil))
def b_Reader_boat_line : RL.Env → SRes := (sThen t_Reader_boat_line_0
    (sThen t_Reader_boat_line_1
    (sThen t_Reader_boat_line_3
    (sThen t_Reader_boat_line_4
    t_Reader_boat_line_5))))
def f_Reader_boat_line : List D → FR := runDef 3 [0] b_Reader_boat_line
def t_Reader_drops_line_0 : RL.Env → SRes := (sExpr (sViewL 0 (sMeth "need" tab_need 2 (sVar 0) (sCons (sAnd (s2 opNe (sFld cs_crews_R "crews" (sVarB 0)) (sLst sNil)) (sAnd (s2 opEq (sFld cs_limits_R "limits" (sVarB 0)) (sLst sNil)) (sChain opLe opLe (sC (.int 1)) (sCall (on1 fLenX) (sCons (sVarB 1) sNil)) (sC (.int 3))))) sNil))))
def t_Reader_drops_line_1 : RL.Env → SRes := (sAsg (.nm 3) true (sCallF 1 f_number_in (sCons (sVar 2) sNil)))
def t_Reader_drops_line_2 : RL.Env → SRes := (sExpr (sViewL 0 (sMeth "need" tab_need 2 (sVar 0) (sCons (sAnd (s2 opIsNot (sVarB 3) (sC .non)) (sChain opLe opLe (sC (.int 1)) (sVarB 3) (sC (.int 12)))) sNil))))
def t_Reader_drops_line_3 : RL.Env → SRes := (sExpr (sViewL 0 (sMeth "need" tab_need 2 (sVar 0) (sCons (sOr (s2 opEq (sFld cs_limits_R "limits" (sVarB 0)) (sLst sNil)) (s2 opLt (sIx (sFld cs_limits_R "limits" (sVarB 0)) (s1 fNeg (sC (.int 1)))) (sVarB 3))) sNil))))
def t_Reader_drops_line_4 : RL.Env → SRes := (sMut mAppend (plFld cs_limits_R "limits" (plVar 0)) (sCons (sVar 3) sNil))
def k_Reader_drops_line_5 : RL.Env → SRes := (sThen t_Reader_drops_line_1
    (sThen t_Reader_drops_line_2
    (sThen t_Reader_drops_line_3
    t_Reader_drops_line_4)))
def t_Reader_drops_line_5 : RL.Env → SRes := (sFor (sIter (sVar 1)) (.nm 2)
    k_Reader_drops_line_5)
def b_Reader_drops_line : RL.Env → SRes := (sThen t_Reader_drops_line_0
    t_Reader_drops_line_5)
def f_Reader_drops_line : List D → FR := runDef 4 [0] b_Reader_drops_line
def t__law_meeting_0 : RL.Env → SRes := (sAsg (.nm 3) true (sCallF 2 f__law_names (sCons (sCallF 2 f__law_mixed (sCons (sCallF 2 f__law_cell_at (sCons (sVar 0) (sCons (sC (.int 0)) sNil))) (sCons (sC (.int 1)) sNil))) (sCons (sC (.int 6)) sNil))))
def t__law_meeting_1 : RL.Env → SRes := (sAsg (.nm 4) false (sLst sNil))
def t__law_meeting_2 : RL.Env → SRes := (sMut mAppend (plVar 4) (sCons (sTup (sCons (sCl (sIx (sVarB 3) (sVarB 5))) (sCons (sCallF 1 f__law_handicap (sCons (sCallF 2 f__law_mixed (sCons (sCallF 2 f__law_cell_at (sCons (sVar 0) (sCons (sC (.int 0)) sNil))) (sCons (s2 opAdd (sC (.int 20)) (sVarB 5)) sNil))) sNil)) sNil))) sNil))
def t__law_meeting_3 : RL.Env → SRes := (sFor (sI rng1 (sCons (s2 opAdd (sC (.int 1)) (s2 opMod (sCallF 2 f__law_cell_at (sCons (sVar 0) (sCons (sC (.int 0)) sNil))) (sC (.int 6)))) sNil)) (.nm 5)
    t__law_meeting_2)
def t__law_meeting_4 : RL.Env → SRes := (sAsg (.nm 6) true (sCallF 2 f__law_names (sCons (sCallF 2 f__law_mixed (sCons (sCallF 2 f__law_cell_at (sCons (sVar 0) (sCons (sC (.int 1)) sNil))) (sCons (sC (.int 2)) sNil))) (sCons (sC (.int 24)) sNil))))
def t__law_meeting_5 : RL.Env → SRes := (sAsg (.nm 7) true (sSl (sCallF 2 f__law_names (sCons (sCallF 2 f__law_mixed (sCons (sCallF 2 f__law_cell_at (sCons (sVar 0) (sCons (sC (.int 2)) sNil))) (sCons (sC (.int 3)) sNil))) (sCons (sC (.int 3)) sNil))) sPn (sPs (s2 opAdd (sC (.int 1)) (s2 opMod (sCallF 2 f__law_cell_at (sCons (sVar 0) (sCons (sC (.int 2)) sNil))) (sC (.int 3)))))))
def t__law_meeting_6 : RL.Env → SRes := (sAsg (.nm 8) false (sLst sNil))
def t__law_meeting_7 : RL.Env → SRes := (sAsg (.nm 14) true (sCallF 2 f__law_mixed (sCons (sCallF 2 f__law_cell_at (sCons (sVar 0) (sCons (sC (.int 1)) sNil))) (sCons (s2 opAdd (sC (.int 40)) (sVarB 5)) sNil))))
def t__law_meeting_8 : RL.Env → SRes := (sMut mAppend (plVar 8) (sCons (sTup (sCons (sCl (sIx (sVarB 6) (sVarB 5))) (sCons (sCl (sIx (sIx (sVarB 4) (s2 opMod (sVarB 14) (sCall (on1 fLenX) (sCons (sVarB 4) sNil)))) (sC (.int 0)))) (sCons (sCl (sIx (sVarB 7) (s2 opMod (s2 opFdiv (sVarB 14) (sC (.int 6))) (sCall (on1 fLenX) (sCons (sVarB 7) sNil))))) sNil)))) sNil))
def k__law_meeting_9 : RL.Env → SRes := (sThen t__law_meeting_7
    t__law_meeting_8)
def t__law_meeting_9 : RL.Env → SRes := (sFor (sI rng1 (sCons (s2 opAdd (sC (.int 1)) (s2 opMod (sCallF 2 f__law_mixed (sCons (sCallF 2 f__law_cell_at (sCons (sVar 0) (sCons (sC (.int 1)) sNil))) (sCons (sC (.int 4)) sNil))) (sVarB 1))) sNil)) (.nm 5)
    k__law_meeting_9)
def t__law_meeting_10 : RL.Env → SRes := (sAsg (.nm 9) true (s2 opMod (s2 opFdiv (sCallF 2 f__law_cell_at (sCons (sVar 0) (sCons (sC (.int 2)) sNil))) (sC (.int 3))) (sC (.int 4))))
def l__law_meeting_11 : RL.Env → Res D := (sLc (sI rng1 (sCons (sVarB 9) sNil)) (.nm 5) [5] sYes (s2 opAdd (sC (.int 1)) (s2 opMod (sCallF 2 f__law_mixed (sCons (sCallF 2 f__law_cell_at (sCons (sVar 0) (sCons (sC (.int 2)) sNil))) (sCons (s2 opAdd (sC (.int 70)) (sVarB 5)) sNil))) (sIx (sLst (sCons (sC (.int 5)) (sCons (sC (.int 5)) (sCons (sC (.int 12)) sNil)))) (s2 opMod (sVarB 5) (sC (.int 3)))))))
def t__law_meeting_12 : RL.Env → SRes := (sAsg (.nm 10) true l__law_meeting_11)
def l__law_meeting_13 : RL.Env → Res D := (sLc (sSeq (sVarB 8)) (.nm 16) [16] sYes (sCl (sIx (sVarB 16) (sC (.int 2)))))
def t__law_meeting_14 : RL.Env → SRes := (sAsg (.nm 11) true (s2 opAdd l__law_meeting_13 (sLst (sCons (sC (.str "all")) sNil))))
def t__law_meeting_15 : RL.Env → SRes := (sAsg (.nm 12) false (sLst sNil))
def t__law_meeting_16 : RL.Env → SRes := (sAsg (.nm 13) true (sCallF 2 f__law_names (sCons (sCallF 2 f__law_mixed (sCons (sCallF 2 f__law_cell_at (sCons (sVar 0) (sCons (sC (.int 3)) sNil))) (sCons (sC (.int 5)) sNil))) (sCons (sC (.int 12)) sNil))))
def t__law_meeting_17 : RL.Env → SRes := (sAsg (.nm 14) true (sCallF 2 f__law_mixed (sCons (sCallF 2 f__law_cell_at (sCons (sVar 0) (sCons (sC (.int 3)) sNil))) (sCons (s2 opAdd (sC (.int 80)) (sVarB 5)) sNil))))
def t__law_meeting_18 : RL.Env → SRes := (sAsg (.nm 15) true (sIx (sLst (sCons (sC (.int 0)) (sCons (s2 opMod (sVarB 14) (sC (.int 40000))) (sCons (s2 opMod (sVarB 14) (sC (.int 359000))) sNil)))) (s2 opMod (sVarB 14) (sC (.int 3)))))
def t__law_meeting_19 : RL.Env → SRes := (sMut mAppend (plVar 12) (sCons (sTup (sCons (sCl (sIx (sVarB 13) (sVarB 5))) (sCons (sCl (sIx (sVarB 11) (s2 opMod (s2 opFdiv (sVarB 14) (sC (.int 3))) (sCall (on1 fLenX) (sCons (sVarB 11) sNil))))) (sCons (sVar 15) (sCons (s2 opMod (s2 opFdiv (sVarB 14) (sC (.int 100))) (sIx (sLst (sCons (sC (.int 1)) (sCons (sC (.int 300)) (sCons (sC (.int 10000)) sNil)))) (s2 opMod (sVarB 14) (sC (.int 3))))) sNil))))) sNil))
def k__law_meeting_21 : RL.Env → SRes := (sThen t__law_meeting_17
    (sThen t__law_meeting_18
    t__law_meeting_19))
def t__law_meeting_20 : RL.Env → SRes := (sFor (sI rng1 (sCons (s2 opMod (sCallF 2 f__law_mixed (sCons (sCallF 2 f__law_cell_at (sCons (sVar 0) (sCons (sC (.int 3)) sNil))) (sCons (sC (.int 6)) sNil))) (s2 opAdd (sVarB 2) (sC (.int 1)))) sNil)) (.nm 5)
    k__law_meeting_21)
def t__law_meeting_21 : RL.Env → SRes := (sRet (sTup (sCons (sCall (on1 fTux) (sCons (sVarB 4) sNil)) (sCons (sCall (on1 fTuple) (sCons (sVarB 8) sNil)) (sCons (sCall (on1 fTuple) (sCons (s1 fSortSet (sVarB 10)) sNil)) (sCons (sCall (on1 fTuple) (sCons (sVarB 12) sNil)) sNil))))))
def b__law_meeting : RL.Env → SRes := (sThen t__law_meeting_0
    (sThen t__law_meeting_1
    (sThen t__law_meeting_3
    (sThen t__law_meeting_4
    (sThen t__law_meeting_5
    (sThen t__law_meeting_6
    (sThen t__law_meeting_9
    (sThen t__law_meeting_10
    (sThen t__law_meeting_12
    (sThen t__law_meeting_14
    (sThen t__law_meeting_15
    (sThen t__law_meeting_16
    (sThen t__law_meeting_20
    t__law_meeting_21)))))))))))))
def f__law_meeting : List D → FR := runDef 17 [] b__law_meeting
def t_time_text_0 : RL.Env → SRes := (sExpr (sCallF 1 f_need_time (sCons (sVar 0) sNil)))
def t_time_text_1 : RL.Env → SRes := (sAsg (.tp [(.nm 1), (.nm 2)]) true (sCall (on2 fDivmod) (sCons (sVarB 0) (sCons (sC (.int 3600)) sNil))))
def t_time_text_2 : RL.Env → SRes := (sAsg (.tp [(.nm 3), (.nm 4)]) true (sCall (on2 fDivmod) (sCons (sVarB 2) (sCons (sC (.int 60)) sNil))))
def t_time_text_3 : RL.Env → SRes := (sRet (s2 opAdd (s2 opAdd (s2 opAdd (s2 opAdd (sCall (on1 fStr) (sCons (sVarB 1) sNil)) (sC (.str ":"))) (sM1 fZfill (sCall (on1 fStr) (sCons (sVarB 3) sNil)) (sC (.int 2)))) (sC (.str ":"))) (sM1 fZfill (sCall (on1 fStr) (sCons (sVarB 4) sNil)) (sC (.int 2)))))
def b_time_text : RL.Env → SRes := (sThen t_time_text_0
    (sThen t_time_text_1
    (sThen t_time_text_2
    t_time_text_3)))
def f_time_text : List D → FR := runDef 5 [] b_time_text
def t_Meeting___init___0 : RL.Env → SRes := (sAsg (.tp [(.nm 2), (.nm 3), (.nm 4), (.nm 5)]) true (sVar 1))
def l_Meeting___init___1 : RL.Env → Res D := (sLc (sIter (sTo D.tp1 (sVar 2))) (.tp [(.nm 8), (.nm 9)]) [8, 9] sYes (sTup (sCons (sVar 8) (sCons (sCallF 1 f_handicap_of (sCons (sVar 9) sNil)) sNil))))
def t_Meeting___init___2 : RL.Env → SRes := (sSetF cs_kinds "kinds" true (plVar 0) (s1 fDict l_Meeting___init___1))
def l_Meeting___init___3 : RL.Env → Res D := (sLc (sIter (sVar 3)) (.nm 6) [6] sYes (sTup (sCons (sCl (sIx (sVarB 6) (sC (.int 0)))) (sCons (sVar 6) sNil))))
def t_Meeting___init___4 : RL.Env → SRes := (sSetF cs_crews "crews" true (plVar 0) (s1 fDict l_Meeting___init___3))
def t_Meeting___init___5 : RL.Env → SRes := (sSetF cs_limits "limits" true (plVar 0) (sCall (on1 fTuple) (sCons (sVarB 4) sNil)))
def l_Meeting___init___6 : RL.Env → Res D := (sLc (sIter (sVar 5)) (.nm 7) [7] sYes (sTup (sCons (sCl (sIx (sVarB 7) (sC (.int 0)))) (sCons (sVar 7) sNil))))
def t_Meeting___init___7 : RL.Env → SRes := (sSetF cs_runs "runs" true (plVar 0) (s1 fDict l_Meeting___init___6))
def b_Meeting___init__ : RL.Env → SRes := (sThen t_Meeting___init___0
    (sThen t_Meeting___init___2
    (sThen t_Meeting___init___4
    (sThen t_Meeting___init___5
    t_Meeting___init___7))))
def f_Meeting___init__ : List D → FR := runDef 10 [0] b_Meeting___init__
def t_Reader_class_line_0 : RL.Env → SRes := (sExpr (sViewL 0 (sMeth "need" tab_need 2 (sVar 0) (sCons (sAnd (s2 opLt (sCall (on1 fLenX) (sCons (sFld cs_classes_R "classes" (sVarB 0)) sNil)) (sC (.int 6))) (s2 opGt (sCall (on1 fLenX) (sCons (sVarB 1) sNil)) (sC (.int 1)))) sNil))))
def t_Reader_class_line_1 : RL.Env → SRes := (sExpr (sViewL 0 (sMeth "need_name" tab_need_name 3 (sVar 0) (sCons (sCl (sIx (sVarB 1) (sC (.int 0)))) (sCons (sCl (sFld cs_classes_R "classes" (sVarB 0))) sNil)))))
def t_Reader_class_line_2 : RL.Env → SRes := (sAsg (.nm 2) true (sCallF 1 f_handicap_in (sCons (sSl (sVarB 1) (sPs (sC (.int 1))) sPn) sNil)))
def t_Reader_class_line_3 : RL.Env → SRes := (sExpr (sViewL 0 (sMeth "need" tab_need 2 (sVar 0) (sCons (s2 opIsNot (sVarB 2) (sC .non)) sNil))))
def t_Reader_class_line_4 : RL.Env → SRes := (sMut mAppend (plFld cs_classes_R "classes" (plVar 0)) (sCons (sTup (sCons (sCl (sIx (sVarB 1) (sC (.int 0)))) (sCons (sVar 2) sNil))) sNil))
def b_Reader_class_line : RL.Env → SRes := (sThen t_Reader_class_line_0
    (sThen t_Reader_class_line_1
    (sThen t_Reader_class_line_2
    (sThen t_Reader_class_line_3
    t_Reader_class_line_4))))
def f_Reader_class_line : List D → FR := runDef 3 [0] b_Reader_class_line
def t_Reader_race_line_0 : RL.Env → SRes := (sExpr (sViewL 0 (sMeth "need" tab_need 2 (sVar 0) (sCons (sAnd (s2 opNe (sFld cs_crews_R "crews" (sVarB 0)) (sLst sNil)) (sAnd (s2 opLt (sCall (on1 fLenX) (sCons (sFld cs_runs_R "runs" (sVarB 0)) sNil)) (sC (.int 12))) (s2 opEq (sCall (on1 fLenX) (sCons (sVarB 1) sNil)) (sC (.int 4))))) sNil))))
def t_Reader_race_line_1 : RL.Env → SRes := (sExpr (sViewL 0 (sMeth "need_name" tab_need_name 3 (sVar 0) (sCons (sCl (sIx (sVarB 1) (sC (.int 0)))) (sCons (sCl (sFld cs_runs_R "runs" (sVarB 0))) sNil)))))
def t_Reader_race_line_2 : RL.Env → SRes := (sExpr (sViewL 0 (sMeth "need" tab_need 2 (sVar 0) (sCons (s2 oIn (sIx (sVarB 1) (sC (.int 1))) (s2 opAdd (sLst (sCons (sC (.str "all")) sNil)) (sMeth "fleets" tab_fleets 1 (sVar 0) sNil))) sNil))))
def t_Reader_race_line_3 : RL.Env → SRes := (sAsg (.nm 2) true (sCallF 1 f_time_in (sCons (sCl (sIx (sVarB 1) (sC (.int 2)))) sNil)))
def t_Reader_race_line_4 : RL.Env → SRes := (sAsg (.nm 3) true (sCallF 1 f_number_in (sCons (sCl (sIx (sVarB 1) (sC (.int 3)))) sNil)))
def t_Reader_race_line_5 : RL.Env → SRes := (sExpr (sViewL 0 (sMeth "need" tab_need 2 (sVar 0) (sCons (sAnd (s2 opIsNot (sVarB 2) (sC .non)) (s2 opIsNot (sVarB 3) (sC .non))) sNil))))
def t_Reader_race_line_6 : RL.Env → SRes := (sMut mAppend (plFld cs_runs_R "runs" (plVar 0)) (sCons (sTup (sCons (sCl (sIx (sVarB 1) (sC (.int 0)))) (sCons (sCl (sIx (sVarB 1) (sC (.int 1)))) (sCons (sVar 2) (sCons (sVar 3) sNil))))) sNil))
def b_Reader_race_line : RL.Env → SRes := (sThen t_Reader_race_line_0
    (sThen t_Reader_race_line_1
    (sThen t_Reader_race_line_2
    (sThen t_Reader_race_line_3
    (sThen t_Reader_race_line_4
    (sThen t_Reader_race_line_5
    t_Reader_race_line_6))))))
def f_Reader_race_line : List D → FR := runDef 4 [0] b_Reader_race_line
def t_Reader_went_0 : RL.Env → SRes := (sAsg (.nm 2) true (sCl (sIx (sVarB 1) (sC (.int 0)))))
def t_Reader_went_1 : RL.Env → SRes := (sExpr (sViewL 0 (sMeth "need" tab_need 2 (sVar 0) (sCons (s1 (fKdIn kd_ORDER) (sVarB 2)) sNil))))
def t_Reader_went_2 : RL.Env → SRes := (sExpr (sViewL 0 (sMeth "need" tab_need 2 (sVar 0) (sCons (s2 opGe (s1 (fKd kd_ORDER) (sVarB 2)) (sFld cs_last_R "last" (sVarB 0))) sNil))))
def t_Reader_went_3 : RL.Env → SRes := (sSetF cs_last_R "last" true (plVar 0) (s1 (fKd kd_ORDER) (sVarB 2)))
def t_Reader_went_4 : RL.Env → SRes := (sExprC (cMeth "Reader" "class_line" 2 f_Reader_class_line (plVar 0) (sCons (sSl (sVarB 1) (sPs (sC (.int 1))) sPn) sNil)))
def t_Reader_went_5 : RL.Env → SRes := (sExprC (cMeth "Reader" "boat_line" 2 f_Reader_boat_line (plVar 0) (sCons (sSl (sVarB 1) (sPs (sC (.int 1))) sPn) sNil)))
def t_Reader_went_6 : RL.Env → SRes := (sExprC (cMeth "Reader" "drops_line" 2 f_Reader_drops_line (plVar 0) (sCons (sSl (sVarB 1) (sPs (sC (.int 1))) sPn) sNil)))
def t_Reader_went_7 : RL.Env → SRes := (sExprC (cMeth "Reader" "race_line" 2 f_Reader_race_line (plVar 0) (sCons (sSl (sVarB 1) (sPs (sC (.int 1))) sPn) sNil)))
def t_Reader_went_8 : RL.Env → SRes := (sIfS (sTest (s2 opEq (sVarB 2) (sC (.str "drops")))) t_Reader_went_6 t_Reader_went_7)
def t_Reader_went_9 : RL.Env → SRes := (sIfS (sTest (s2 opEq (sVarB 2) (sC (.str "boat")))) t_Reader_went_5 t_Reader_went_8)
def t_Reader_went_10 : RL.Env → SRes := (sIfS (sTest (s2 opEq (sVarB 2) (sC (.str "class")))) t_Reader_went_4 t_Reader_went_9)
def b_Reader_went : RL.Env → SRes := (sThen t_Reader_went_0
    (sThen t_Reader_went_1
    (sThen t_Reader_went_2
    (sThen t_Reader_went_3
    t_Reader_went_10))))
def f_Reader_went : List D → FR := runDef 3 [0] b_Reader_went
abbrev tab_plain7 : List (Str × (List D → FR)) := [("LevelHandicap", f_LevelHandicap_plain), ("FactorHandicap", f_Handicap_plain), ("YardHandicap", f_Handicap_plain), ("MileHandicap", f_Handicap_plain), ("Meeting", f_Meeting_plain)]
abbrev tab_text : List (Str × (List D → FR)) := [("LevelHandicap", f_LevelHandicap_text), ("FactorHandicap", f_Handicap_text), ("YardHandicap", f_Handicap_text), ("MileHandicap", f_Handicap_text)]
def t_shown_0 : RL.Env → SRes := (sAsg (.tp [(.nm 2), (.nm 3), (.nm 4), (.nm 5)]) true (sMeth "plain" tab_plain7 1 (sVar 0) sNil))
def l_shown_1 : RL.Env → Res D := (sLc (sIter (sVar 2)) (.tp [(.nm 6), (.nm 10)]) [6, 10] sYes (s2 opAdd (s2 opAdd (s2 opAdd (sC (.str "class ")) (sVarB 6)) (sC (.str " "))) (sMeth "text" tab_text 1 (sCallF 1 f_handicap_of (sCons (sVar 10) sNil)) sNil)))
def t_shown_2 : RL.Env → SRes := (sAsg (.nm 1) false l_shown_1)
def l_shown_3 : RL.Env → Res D := (sLc (sIter (sVar 3)) (.nm 11) [11] sYes (s2 opAdd (sC (.str "boat ")) (sM1 fJoin (sC (.str " ")) (sCall (on1 fListX) (sCons (sVarB 11) sNil)))))
def t_shown_4 : RL.Env → SRes := (sMut mExtend (plVar 1) (sCons l_shown_3 sNil))
def l_shown_5 : RL.Env → Res D := (sLc (sIter (sVar 4)) (.nm 12) [12] sYes (sCall (on1 fStr) (sCons (sVarB 12) sNil)))
def t_shown_6 : RL.Env → SRes := (sMut mAppend (plVar 1) (sCons (sM1 fJoin (sC (.str " ")) (s2 opAdd (sLst (sCons (sC (.str "drops")) sNil)) l_shown_5)) sNil))
def t_shown_7 : RL.Env → SRes := (sIfS (sTest (s2 opNe (sVarB 4) (sTup sNil))) t_shown_6 sNext)
def t_shown_8 : RL.Env → SRes := (sMut mAppend (plVar 1) (sCons (sM1 fJoin (sC (.str " ")) (sLst (sCons (sC (.str "race")) (sCons (sVar 6) (sCons (sVar 7) (sCons (sCallF 1 f_time_text (sCons (sVar 8) sNil)) (sCons (sCall (on1 fStr) (sCons (sVarB 9) sNil)) sNil))))))) sNil))
def t_shown_9 : RL.Env → SRes := (sFor (sIter (sVar 5)) (.tp [(.nm 6), (.nm 7), (.nm 8), (.nm 9)])
    t_shown_8)
def t_shown_10 : RL.Env → SRes := (sRet (sM1 fJoin (sC (.str "\n")) (sVarB 1)))
def b_shown : RL.Env → SRes := (sThen t_shown_0
    (sThen t_shown_2
    (sThen t_shown_4
    (sThen t_shown_7
    (sThen t_shown_9
    t_shown_10)))))
def f_shown : List D → FR := runDef 13 [] b_shown
def t_meeting_of_0 : RL.Env → SRes := (sRet (sMake "Meeting" 2 f_Meeting___init__ (sCons (sVar 0) sNil)))
def b_meeting_of : RL.Env → SRes := t_meeting_of_0
def f_meeting_of : List D → FR := runDef 1 [] b_meeting_of
def t_Reader_went_through_0 : RL.Env → SRes := (sAsg (.nm 2) true (sM1 fSplit (sVarB 1) (sC (.str "\n"))))
def t_Reader_went_through_1 : RL.Env → SRes := (sSetF cs_row_R "row" true (plVar 0) (s2 opAdd (sVarB 3) (sC (.int 1))))
def t_Reader_went_through_2 : RL.Env → SRes := (sExpr (sViewL 0 (sMeth "need" tab_need 2 (sVar 0) (sCons (s2 oNotIn (sC (.str "\t")) (sVarB 4)) sNil))))
def l_Reader_went_through_3 : RL.Env → Res D := (sLc (sIter (sM1 fSplit (sIx (sM1 fPart (sVarB 4) (sC (.str "#"))) (sC (.int 0))) (sC (.str " ")))) (.nm 6) [6] (sTest (s2 opNe (sVarB 6) (sC (.str "")))) (sVar 6))
def t_Reader_went_through_4 : RL.Env → SRes := (sAsg (.nm 5) true l_Reader_went_through_3)
def t_Reader_went_through_5 : RL.Env → SRes := (sExprC (cMeth "Reader" "went" 2 f_Reader_went (plVar 0) (sCons (sVar 5) sNil)))
def t_Reader_went_through_6 : RL.Env → SRes := (sIfS (sTest (s2 opNe (sVarB 5) (sLst sNil))) t_Reader_went_through_5 sNext)
def k_Reader_went_through_7 : RL.Env → SRes := (sThen t_Reader_went_through_1
    (sThen t_Reader_went_through_2
    (sThen t_Reader_went_through_4
    t_Reader_went_through_6)))
def t_Reader_went_through_7 : RL.Env → SRes := (sFor (sI enum1 (sCons (sVar 2) sNil)) (.tp [(.nm 3), (.nm 4)])
    k_Reader_went_through_7)
def t_Reader_went_through_8 : RL.Env → SRes := (sSetF cs_row_R "row" true (plVar 0) (s2 opAdd (sCall (on1 fLenX) (sCons (sVarB 2) sNil)) (sC (.int 1))))
def t_Reader_went_through_9 : RL.Env → SRes := (sExpr (sViewL 0 (sMeth "need" tab_need 2 (sVar 0) (sCons (s2 opNe (sFld cs_crews_R "crews" (sVarB 0)) (sLst sNil)) sNil))))
def b_Reader_went_through : RL.Env → SRes := (sThen t_Reader_went_through_0
    (sThen t_Reader_went_through_7
    (sThen t_Reader_went_through_8
    t_Reader_went_through_9)))
def f_Reader_went_through : List D → FR := runDef 7 [0] b_Reader_went_through
def t_read_0 : RL.Env → SRes := (sIfS (sNot (sTest (s1 (fIsTy "str") (sVarB 0)))) (fun _ => SRes.bad) sNext)
def t_read_1 : RL.Env → SRes := (sAsg (.nm 1) false (sMake "Reader" 1 f_Reader___init__ sNil))
def t_read_2 : RL.Env → SRes := (sExprC (cMeth "Reader" "went_through" 2 f_Reader_went_through (plVar 1) (sCons (sVar 0) sNil)))
def t_read_3 : RL.Env → SRes := (sRet (sCallF 1 f_meeting_of (sCons (sTup (sCons (sCall (on1 fTux) (sCons (sFld cs_classes_R "classes" (sVarB 1)) sNil)) (sCons (sCall (on1 fTuple) (sCons (sFld cs_crews_R "crews" (sVarB 1)) sNil)) (sCons (sCall (on1 fTuple) (sCons (sFld cs_limits_R "limits" (sVarB 1)) sNil)) (sCons (sCall (on1 fTuple) (sCons (sFld cs_runs_R "runs" (sVarB 1)) sNil)) sNil))))) sNil)))
def b_read : RL.Env → SRes := (sThen t_read_0
    (sThen t_read_1
    (sThen t_read_2
    t_read_3)))
def f_read : List D → FR := runDef 2 [] b_read
def t__law_is_read_0 : RL.Env → SRes := (sAsg (.nm 4) true (sCallF 1 f_read (sCons (sVar 0) sNil)))
def t__law_is_read_1 : RL.Env → SRes := (sIfS (sOrT (sNot (sTest (s1 (fIsObj iso_Meeting) (sVarB 4)))) (sOrT (sTest (s2 opNe (sCall fRepr (sCons (sMeth "plain" tab_plain7 1 (sVar 4) sNil) sNil)) (sCall fRepr (sCons (sTo D.tp (sVarB 1)) sNil)))) (sTest (s2 opNe (sCallF 1 f_shown (sCons (sVar 4) sNil)) (sVarB 2))))) (sRet (sC (.bl false))) sNext)
def k__law_is_read_2 : RL.Env → SRes := (sThen t__law_is_read_0
    t__law_is_read_1)
def t__law_is_read_2 : RL.Env → SRes := (sFor (sI rng1 (sCons (sC (.int 2)) sNil)) (.nm 3)
    k__law_is_read_2)
def b__law_is_read : RL.Env → SRes := (sThen t__law_is_read_2
    (sRet (sC (.bl true))))
def f__law_is_read : List D → FR := runDef 5 [] b__law_is_read
def t_law_0 : RL.Env → SRes := (sAsg (.nm 1) true (sCallF 3 f__law_meeting (sCons (sVar 0) (sCons (sC (.int 24)) (sCons (sC (.int 12)) sNil)))))
def t_law_1 : RL.Env → SRes := (sAsg (.nm 2) true (sCallF 1 f__law_lines (sCons (sVar 1) sNil)))
def t_law_2 : RL.Env → SRes := (sAsg (.nm 3) true (sM1 fJoin (sC (.str "\n")) (sVarB 2)))
def t_law_3 : RL.Env → SRes := (sAsg (.nm 4) true (sCallF 1 f_meeting_of (sCons (sVar 1) sNil)))
def t_law_4 : RL.Env → SRes := (sAsg (.nm 6) true (sCallF 1 f_shown (sCons (sVar 4) sNil)))
def t_law_5 : RL.Env → SRes := (sIfS (sOrT (sNot (sTest (s1 (fIsTy "str") (sVarB 6)))) (sOrT (sTest (s2 opNe (sVarB 6) (sVarB 3))) (sNot (sTest (sCallF 3 f__law_is_read (sCons (sVar 6) (sCons (sVar 1) (sCons (sVar 3) sNil)))))))) (sRet (sC (.bl false))) sNext)
def k_law_6 : RL.Env → SRes := (sThen t_law_4
    t_law_5)
def t_law_6 : RL.Env → SRes := (sFor (sI rng1 (sCons (sC (.int 2)) sNil)) (.nm 5)
    k_law_6)
def t_law_7 : RL.Env → SRes := (sIfS (sNot (sTest (sCallF 3 f__law_is_read (sCons (sCallF 2 f__law_strewn (sCons (sCallF 2 f__law_mixed (sCons (sVar 8) (sCons (s2 opAdd (sC (.int 600)) (sVarB 7)) sNil))) (sCons (sVar 2) sNil))) (sCons (sVar 1) (sCons (sVar 3) sNil)))))) (sRet (sC (.bl false))) sNext)
def t_law_8 : RL.Env → SRes := (sFor (sI enum1 (sCons (s2 opAdd (sCall (on1 fListX) (sCons (sSl (sVarB 0) (sPs (sC (.int 4))) (sPs (sC (.int 63)))) sNil)) (sLst (sCons (sC (.int 0)) sNil))) sNil)) (.tp [(.nm 7), (.nm 8)])
    t_law_7)
def t_law_9 : RL.Env → SRes := (sRet (s2 opEq (sCall fRepr (sCons (sMeth "plain" tab_plain7 1 (sVar 4) sNil) sNil)) (sCall fRepr (sCons (sTo D.tp (sVarB 1)) sNil))))
def b_law : RL.Env → SRes := (sThen t_law_0
    (sThen t_law_1
    (sThen t_law_2
    (sThen t_law_3
    (sThen t_law_6
    (sThen t_law_8
    t_law_9))))))
def f_law : List D → FR := runDef 9 [] b_law
end Lk11
namespace Lk11
open PySem PySem.Spec PyProof.Rows L2 RL
abbrev N_is_whole : List Str := ["thing"]
theorem c_is_whole : FnScope N_is_whole ["thing"] (defScope s_is_whole) := ⟨rfl, rfl, rfl, by decide +kernel, rfl, by decide +kernel, by decide +kernel⟩
theorem o_is_whole {P : Program} {w : World} {K : PySem.W.Frag} {mg : Str → Option Value} {base : Heap} {f : Addr} {fd : FuncData} (F : Fun K "is_whole" "is_whole" s_is_whole f fd) (g : mg "is_whole" = some (.ref f)) (m_bool : mg "bool" = none) (m_int : mg "int" = none) (m_isinstance : mg "isinstance" = none) :
    DefOk P w K mg base "is_whole" 1 ["thing"] f_is_whole := DefOk.mk' F g (fn_ok F c_is_whole List.nodup_nil (by
  rintro X W cdv A outer s H E rfl hr tk hp
  exact (ss_one (s_ret (e_and (e_isTy "int" m_isinstance m_int (by decide +kernel) (b_var 0)) (e_one (e_not (e_isTy "bool" m_isinstance m_bool (by decide +kernel) (b_var 0))))))))) fun _ _ _ _ _ _ us hl => match us, hl with | [_], _ => rfl
abbrev N_are_figures : List Str := ["text", "least", "most", "sign"]
theorem c_are_figures : FnScope N_are_figures ["text", "least", "most"] (defScope s_are_figures) := ⟨rfl, rfl, rfl, by decide +kernel, rfl, by decide +kernel, by decide +kernel⟩
theorem o_are_figures {P : Program} {w : World} {K : PySem.W.Frag} {mg : Str → Option Value} {base : Heap} {f : Addr} {fd : FuncData} (F : Fun K "are_figures" "are_figures" s_are_figures f fd) (g : mg "are_figures" = some (.ref f)) (m_FIGURES : ∃ t, mg "FIGURES" = some (.str "0123456789" t)) (m_all : mg "all" = none) (m_len : mg "len" = none) :
    DefOk P w K mg base "are_figures" 1 ["text", "least", "most"] f_are_figures := DefOk.mk' F g (fn_ok F c_are_figures List.nodup_nil (by
  rintro X W cdv A outer s H E rfl hr tk hp
  exact (ss_one (s_ret (e_and (e_chain o_le o_le (b_var 1) (EOk.bo (e_callB c_lenX m_len (by decide +kernel) (ab_cons (b_var 0) ab_nil))) (b_var 2)) (e_one (e_callB (c_all rfl) m_all (by decide +kernel) (ab_cons (EOk.bo (e_lc rfl c_are_figures.nd (bor := true) (own := [("sign", 3)]) (i_any (bor := true) (e_var 0)) (blkOk_by (own := [("sign", 3)]) (N := N_are_figures) (sc := defScope s_are_figures) (by decide +kernel)) (by decide) (fun _ _ _ _ _ => (g_nm 3 c_are_figures.nd)) (fun _ _ _ _ _ => ts_nil) (fun _ _ _ _ _ => (e_cmp (o_in hr.r) (b_var 3) (EOk.bo (e_globS m_FIGURES)))))) ab_nil)))))))) fun _ _ _ _ _ _ us hl => match us, hl with | [_, _, _], _ => rfl
abbrev N_Handicap___init__ : List Str := ["self", "bearing"]
theorem c_Handicap___init__ : FnScope N_Handicap___init__ ["self", "bearing"] (defScope s_Handicap___init__) := ⟨rfl, rfl, rfl, by decide +kernel, rfl, by decide +kernel, by decide +kernel⟩
theorem o_Handicap___init__ {P : Program} {w : World} {K : PySem.W.Frag} {mg : Str → Option Value} {base : Heap} {f : Addr} {fd : FuncData} (F : Fun K "__init__" "Handicap.__init__" s_Handicap___init__ f fd) (fl_bearing : FldOk K mg "bearing" cs_bearing) :
    FnG P w K mg base 1 f fd ["self", "bearing"] (spF ⟨K, mg⟩ 2 [0] f_Handicap___init__) := (fn_ok F c_Handicap___init__ (by decide) (by
  rintro X W cdv A outer s H E rfl hr tk hp
  exact (ss_one (s_setF true fl_bearing (pl_var 0) (e_var 1)))))
abbrev N_Handicap_word : List Str := ["self"]
theorem c_Handicap_word : FnScope N_Handicap_word ["self"] (defScope s_Handicap_word) := ⟨rfl, rfl, rfl, by decide +kernel, rfl, by decide +kernel, by decide +kernel⟩
theorem o_Handicap_word {P : Program} {w : World} {K : PySem.W.Frag} {mg : Str → Option Value} {base : Heap} {f : Addr} {fd : FuncData} (F : Fun K "word" "Handicap.word" s_Handicap_word f fd)  :
    FnG P w K mg base 1 f fd ["self"] (spF ⟨K, mg⟩ 1 [] f_Handicap_word) := (fn_ok F c_Handicap_word List.nodup_nil (by
  rintro X W cdv A outer s H E rfl hr tk hp
  exact (ss_one (s_ret e_str))))
abbrev N_FactorHandicap_word : List Str := ["self"]
theorem c_FactorHandicap_word : FnScope N_FactorHandicap_word ["self"] (defScope s_FactorHandicap_word) := ⟨rfl, rfl, rfl, by decide +kernel, rfl, by decide +kernel, by decide +kernel⟩
theorem o_FactorHandicap_word {P : Program} {w : World} {K : PySem.W.Frag} {mg : Str → Option Value} {base : Heap} {f : Addr} {fd : FuncData} (F : Fun K "word" "FactorHandicap.word" s_FactorHandicap_word f fd)  :
    FnG P w K mg base 1 f fd ["self"] (spF ⟨K, mg⟩ 1 [] f_FactorHandicap_word) := (fn_ok F c_FactorHandicap_word List.nodup_nil (by
  rintro X W cdv A outer s H E rfl hr tk hp
  exact (ss_one (s_ret e_str))))
abbrev N_YardHandicap_word : List Str := ["self"]
theorem c_YardHandicap_word : FnScope N_YardHandicap_word ["self"] (defScope s_YardHandicap_word) := ⟨rfl, rfl, rfl, by decide +kernel, rfl, by decide +kernel, by decide +kernel⟩
theorem o_YardHandicap_word {P : Program} {w : World} {K : PySem.W.Frag} {mg : Str → Option Value} {base : Heap} {f : Addr} {fd : FuncData} (F : Fun K "word" "YardHandicap.word" s_YardHandicap_word f fd)  :
    FnG P w K mg base 1 f fd ["self"] (spF ⟨K, mg⟩ 1 [] f_YardHandicap_word) := (fn_ok F c_YardHandicap_word List.nodup_nil (by
  rintro X W cdv A outer s H E rfl hr tk hp
  exact (ss_one (s_ret e_str))))
abbrev N_MileHandicap_word : List Str := ["self"]
theorem c_MileHandicap_word : FnScope N_MileHandicap_word ["self"] (defScope s_MileHandicap_word) := ⟨rfl, rfl, rfl, by decide +kernel, rfl, by decide +kernel, by decide +kernel⟩
theorem o_MileHandicap_word {P : Program} {w : World} {K : PySem.W.Frag} {mg : Str → Option Value} {base : Heap} {f : Addr} {fd : FuncData} (F : Fun K "word" "MileHandicap.word" s_MileHandicap_word f fd)  :
    FnG P w K mg base 1 f fd ["self"] (spF ⟨K, mg⟩ 1 [] f_MileHandicap_word) := (fn_ok F c_MileHandicap_word List.nodup_nil (by
  rintro X W cdv A outer s H E rfl hr tk hp
  exact (ss_one (s_ret e_str))))
abbrev N_is_name : List Str := ["word", "sign"]
theorem c_is_name : FnScope N_is_name ["word"] (defScope s_is_name) := ⟨rfl, rfl, rfl, by decide +kernel, rfl, by decide +kernel, by decide +kernel⟩
theorem o_is_name {P : Program} {w : World} {K : PySem.W.Frag} {mg : Str → Option Value} {base : Heap} {f : Addr} {fd : FuncData} (F : Fun K "is_name" "is_name" s_is_name f fd) (g : mg "is_name" = some (.ref f)) (m_ALL : ∃ t, mg "ALL" = some (.str "all" t)) (m_MOST_SIGNS : ∃ t, mg "MOST_SIGNS" = some (.int 6 t)) (m_SIGNS : ∃ t, mg "SIGNS" = some (.str "abcdefghijklmnopqrstuvwxyz0123456789" t)) (m_all : mg "all" = none) (m_len : mg "len" = none) :
    DefOk P w K mg base "is_name" 1 ["word"] f_is_name := DefOk.mk' F g (fn_ok F c_is_name List.nodup_nil (by
  rintro X W cdv A outer s H E rfl hr tk hp
  exact (ss_one (s_ret (e_and (e_chain o_le o_le (EOk.bo e_int) (EOk.bo (e_callB c_lenX m_len (by decide +kernel) (ab_cons (b_var 0) ab_nil))) (EOk.bo (e_globI m_MOST_SIGNS))) (e_and (e_cmp (o_ne hr.r) (b_var 0) (EOk.bo (e_globS m_ALL))) (e_one (e_callB (c_all rfl) m_all (by decide +kernel) (ab_cons (EOk.bo (e_lc rfl c_is_name.nd (bor := true) (own := [("sign", 1)]) (i_any (bor := true) (e_var 0)) (blkOk_by (own := [("sign", 1)]) (N := N_is_name) (sc := defScope s_is_name) (by decide +kernel)) (by decide) (fun _ _ _ _ _ => (g_nm 1 c_is_name.nd)) (fun _ _ _ _ _ => ts_nil) (fun _ _ _ _ _ => (e_cmp (o_in hr.r) (b_var 1) (EOk.bo (e_globS m_SIGNS)))))) ab_nil))))))))) fun _ _ _ _ _ _ us hl => match us, hl with | [_], _ => rfl
abbrev N_Reader___init__ : List Str := ["self"]
theorem c_Reader___init__ : FnScope N_Reader___init__ ["self"] (defScope s_Reader___init__) := ⟨rfl, rfl, rfl, by decide +kernel, rfl, by decide +kernel, by decide +kernel⟩
theorem o_Reader___init__ {P : Program} {w : World} {K : PySem.W.Frag} {mg : Str → Option Value} {base : Heap} {f : Addr} {fd : FuncData} (F : Fun K "__init__" "Reader.__init__" s_Reader___init__ f fd) (fl_classes_R : FldOk K mg "classes" cs_classes_R) (fl_crews_R : FldOk K mg "crews" cs_crews_R) (fl_limits_R : FldOk K mg "limits" cs_limits_R) (fl_runs_R : FldOk K mg "runs" cs_runs_R) (fl_last_R : FldOk K mg "last" cs_last_R) (fl_row_R : FldOk K mg "row" cs_row_R) :
    FnG P w K mg base 1 f fd ["self"] (spF ⟨K, mg⟩ 1 [0] f_Reader___init__) := (fn_ok F c_Reader___init__ (by decide) (by
  rintro X W cdv A outer s H E rfl hr tk hp
  exact (ss_cons (s_setF false fl_classes_R (pl_var 0) (e_lst a_nil))
    (ss_cons (s_setF false fl_crews_R (pl_var 0) (e_lst a_nil))
    (ss_cons (s_setF false fl_limits_R (pl_var 0) (e_lst a_nil))
    (ss_cons (s_setF false fl_runs_R (pl_var 0) (e_lst a_nil))
    (ss_cons (s_setF true fl_last_R (pl_var 0) e_int)
    (ss_one (s_setF true fl_row_R (pl_var 0) e_int)))))))))
abbrev N_Reader_need : List Str := ["self", "is_good"]
theorem c_Reader_need : FnScope N_Reader_need ["self", "is_good"] (defScope s_Reader_need) := ⟨rfl, rfl, rfl, by decide +kernel, rfl, by decide +kernel, by decide +kernel⟩
theorem o_Reader_need {P : Program} {w : World} {K : PySem.W.Frag} {mg : Str → Option Value} {base : Heap} {f : Addr} {fd : FuncData} (F : Fun K "need" "Reader.need" s_Reader_need f fd)  :
    FnG P w K mg base 1 f fd ["self", "is_good"] (spF ⟨K, mg⟩ 2 [] f_Reader_need) := (fn_ok F c_Reader_need List.nodup_nil (by
  rintro X W cdv A outer s H E rfl hr tk hp
  exact (ss_one (s_if (t_not (t_val (e_var 1))) (ss_one s_wallS) ss_nil))))
abbrev N_Reader_fleets : List Str := ["self", "boat"]
theorem c_Reader_fleets : FnScope N_Reader_fleets ["self"] (defScope s_Reader_fleets) := ⟨rfl, rfl, rfl, by decide +kernel, rfl, by decide +kernel, by decide +kernel⟩
theorem o_Reader_fleets {P : Program} {w : World} {K : PySem.W.Frag} {mg : Str → Option Value} {base : Heap} {f : Addr} {fd : FuncData} (F : Fun K "fleets" "Reader.fleets" s_Reader_fleets f fd) (fl_crews_R : FldOk K mg "crews" cs_crews_R) (m_dict : mg "dict" = none) (m_list : mg "list" = none) :
    FnG P w K mg base 1 f fd ["self"] (spF ⟨K, mg⟩ 1 [] f_Reader_fleets) := (fn_ok F c_Reader_fleets List.nodup_nil (by
  rintro X W cdv A outer s H E rfl hr tk hp
  exact (ss_one (s_ret (e_callTy (c_listX rfl) m_list (by decide +kernel) (ab_cons (EOk.bo (e_dict rfl m_dict (e_lc rfl c_Reader_fleets.nd (bor := true) (own := [("boat", 1)]) (i_any (bor := true) (BOk.eo (b_fld fl_crews_R (b_var 0)))) (blkOk_by (own := [("boat", 1)]) (N := N_Reader_fleets) (sc := defScope s_Reader_fleets) (by decide +kernel)) (by decide) (fun _ _ _ _ _ => (g_nm 1 c_Reader_fleets.nd)) (fun _ _ _ _ _ => ts_nil) (fun _ _ _ _ _ => (e_tup (a_cons (BOk.eo (b_sub (hu_of hr.r) (b_var 1) (EOk.bo e_int))) (a_cons e_bl a_nil))))))) ab_nil))))))
abbrev N__law_cell_at : List Str := ["_law_script", "_law_k"]
theorem c__law_cell_at : FnScope N__law_cell_at ["_law_script", "_law_k"] (defScope s__law_cell_at) := ⟨rfl, rfl, rfl, by decide +kernel, rfl, by decide +kernel, by decide +kernel⟩
theorem o__law_cell_at {P : Program} {w : World} {K : PySem.W.Frag} {mg : Str → Option Value} {base : Heap} {f : Addr} {fd : FuncData} (F : Fun K "_law_cell_at" "_law_cell_at" s__law_cell_at f fd) (g : mg "_law_cell_at" = some (.ref f)) (m_len : mg "len" = none) :
    DefOk P w K mg base "_law_cell_at" 1 ["_law_script", "_law_k"] f__law_cell_at := DefOk.mk' F g (fn_ok F c__law_cell_at List.nodup_nil (by
  rintro X W cdv A outer s H E rfl hr tk hp
  exact (ss_cons (s_if (t_cmp o_lt (b_var 1) (EOk.bo (e_callB c_lenX m_len (by decide +kernel) (ab_cons (b_var 0) ab_nil)))) (ss_one (s_ret (BOk.eo (b_sub (hu_of hr.r) (b_var 0) (b_var 1))))) ss_nil)
    (ss_one (s_ret e_int))))) fun _ _ _ _ _ _ us hl => match us, hl with | [_, _], _ => rfl
abbrev N__law_mixed : List Str := ["_law_cell", "_law_k", "_law_number"]
theorem c__law_mixed : FnScope N__law_mixed ["_law_cell", "_law_k"] (defScope s__law_mixed) := ⟨rfl, rfl, rfl, by decide +kernel, rfl, by decide +kernel, by decide +kernel⟩
theorem o__law_mixed {P : Program} {w : World} {K : PySem.W.Frag} {mg : Str → Option Value} {base : Heap} {f : Addr} {fd : FuncData} (F : Fun K "_law_mixed" "_law_mixed" s__law_mixed f fd) (g : mg "_law_mixed" = some (.ref f))  :
    DefOk P w K mg base "_law_mixed" 1 ["_law_cell", "_law_k"] f__law_mixed := DefOk.mk' F g (fn_ok F c__law_mixed List.nodup_nil (by
  rintro X W cdv A outer s H E rfl hr tk hp
  exact (ss_cons (s_set 2 (f := true) c__law_mixed.nd (e_op o_mod (EOk.bo (e_op o_add (EOk.bo (e_op o_add (EOk.bo (e_op o_mul (b_var 0) (EOk.bo e_int))) (EOk.bo (e_op o_mul (EOk.bo e_int) (b_var 1))))) (EOk.bo e_int))) (EOk.bo e_int)))
    (ss_one (s_ret (e_op o_mod (EOk.bo (e_op o_mul (EOk.bo (e_op o_mod (EOk.bo (e_op o_mul (b_var 2) (b_var 2))) (EOk.bo e_int))) (b_var 2))) (EOk.bo e_int))))))) fun _ _ _ _ _ _ us hl => match us, hl with | [_, _], _ => rfl
abbrev N__law_time_text : List Str := ["_law_time"]
theorem c__law_time_text : FnScope N__law_time_text ["_law_time"] (defScope s__law_time_text) := ⟨rfl, rfl, rfl, by decide +kernel, rfl, by decide +kernel, by decide +kernel⟩
theorem o__law_time_text {P : Program} {w : World} {K : PySem.W.Frag} {mg : Str → Option Value} {base : Heap} {f : Addr} {fd : FuncData} (F : Fun K "_law_time_text" "_law_time_text" s__law_time_text f fd) (g : mg "_law_time_text" = some (.ref f)) (m_str : mg "str" = none) :
    DefOk P w K mg base "_law_time_text" 1 ["_law_time"] f__law_time_text := DefOk.mk' F g (fn_ok F c__law_time_text List.nodup_nil (by
  rintro X W cdv A outer s H E rfl hr tk hp
  exact (ss_one (s_ret (e_join (EOk.bo e_str) (EOk.bo (e_lst (a_cons (e_callTy c_str m_str (by decide +kernel) (ab_cons (EOk.bo (e_op o_fdiv (b_var 0) (EOk.bo e_int))) ab_nil)) (a_cons (e_slice (EOk.bo (e_callTy c_str m_str (by decide +kernel) (ab_cons (EOk.bo (e_op o_add (EOk.bo e_int) (EOk.bo (e_op o_mod (EOk.bo (e_op o_fdiv (b_var 0) (EOk.bo e_int))) (EOk.bo e_int))))) ab_nil))) (p_some (EOk.bo e_int)) p_none) (a_cons (e_slice (EOk.bo (e_callTy c_str m_str (by decide +kernel) (ab_cons (EOk.bo (e_op o_add (EOk.bo e_int) (EOk.bo (e_op o_mod (b_var 0) (EOk.bo e_int))))) ab_nil))) (p_some (EOk.bo e_int)) p_none) a_nil)))))))))) fun _ _ _ _ _ _ us hl => match us, hl with | [_], _ => rfl
abbrev N_is_time : List Str := ["thing"]
theorem c_is_time : FnScope N_is_time ["thing"] (defScope s_is_time) := ⟨rfl, rfl, rfl, by decide +kernel, rfl, by decide +kernel, by decide +kernel⟩
theorem o_is_time {P : Program} {w : World} {K : PySem.W.Frag} {mg : Str → Option Value} {base : Heap} {f : Addr} {fd : FuncData} (F : Fun K "is_time" "is_time" s_is_time f fd) (g : mg "is_time" = some (.ref f)) (d_is_whole : DefOk P w K mg base "is_whole" 1 ["thing"] f_is_whole) (m_LAST : ∃ t, mg "LAST" = some (.int 359999 t)) :
    DefOk P w K mg base "is_time" 2 ["thing"] f_is_time := DefOk.mk' F g (fn_ok F c_is_time List.nodup_nil (by
  rintro X W cdv A outer s H E rfl hr tk hp
  exact (ss_one (s_ret (e_and (e_fn d_is_whole hr tk (a_cons (e_var 0) a_nil)) (e_one (e_chain o_le o_le (EOk.bo e_int) (b_var 0) (EOk.bo (e_globI m_LAST))))))))) fun _ _ _ _ _ _ us hl => match us, hl with | [_], _ => rfl
abbrev N_time_read : List Str := ["text", "parts", "hours", "minutes", "seconds", "part"]
theorem c_time_read : FnScope N_time_read ["text"] (defScope s_time_read) := ⟨rfl, rfl, rfl, by decide +kernel, rfl, by decide +kernel, by decide +kernel⟩
theorem o_time_read {P : Program} {w : World} {K : PySem.W.Frag} {mg : Str → Option Value} {base : Heap} {f : Addr} {fd : FuncData} (F : Fun K "time_read" "time_read" s_time_read f fd) (g : mg "time_read" = some (.ref f)) (d_are_figures : DefOk P w K mg base "are_figures" 1 ["text", "least", "most"] f_are_figures) (xc_BadTime : XcOk K mg "BadTime") (m_HOUR : ∃ t, mg "HOUR" = some (.int 3600 t)) (m_MINUTE : ∃ t, mg "MINUTE" = some (.int 60 t)) (m_int : mg "int" = none) (m_isinstance : mg "isinstance" = none) (m_len : mg "len" = none) (m_str : mg "str" = none) :
    DefOk P w K mg base "time_read" 2 ["text"] f_time_read := DefOk.mk' F g (fn_ok F c_time_read List.nodup_nil (by
  rintro X W cdv A outer s H E rfl hr tk hp
  exact (ss_cons (s_set 1 (f := true) c_time_read.nd (e_if (t_val (e_isTy "str" m_isinstance m_str (by decide +kernel) (b_var 0))) (e_split (b_var 0) (EOk.bo e_str)) (e_lst a_nil)))
    (ss_cons (s_if (WOk.t (w_or (t_cmp (o_ne hr.r) (EOk.bo (e_callB c_lenX m_len (by decide +kernel) (ab_cons (b_var 1) ab_nil))) (EOk.bo e_int)) (w_or1 (t_not (t_val (e_fn d_are_figures hr tk (a_cons (BOk.eo (b_sub (hu_of hr.r) (b_var 1) (EOk.bo e_int))) (a_cons e_int (a_cons e_int a_nil))))))))) (ss_one (s_raise xc_BadTime rfl tk)) ss_nil)
    (ss_cons (s_if (WOk.t (w_or (t_not (t_val (e_fn d_are_figures hr tk (a_cons (BOk.eo (b_sub (hu_of hr.r) (b_var 1) (EOk.bo e_int))) (a_cons e_int (a_cons e_int a_nil)))))) (w_or1 (t_not (t_val (e_fn d_are_figures hr tk (a_cons (BOk.eo (b_sub (hu_of hr.r) (b_var 1) (EOk.bo e_int))) (a_cons e_int (a_cons e_int a_nil))))))))) (ss_one (s_raise xc_BadTime rfl tk)) ss_nil)
    (ss_cons (s_asg (f := true) (e_lc rfl c_time_read.nd (bor := true) (own := [("part", 5)]) (i_any (bor := true) (e_var 1)) (blkOk_by (own := [("part", 5)]) (N := N_time_read) (sc := defScope s_time_read) (by decide +kernel)) (by decide) (fun _ _ _ _ _ => (g_nm 5 c_time_read.nd)) (fun _ _ _ _ _ => ts_nil) (fun _ _ _ _ _ => (e_callTy c_int m_int (by decide +kernel) (ab_cons (b_var 5) ab_nil)))) (g_tup rfl (gs_cons (g_nm 2 c_time_read.nd) (gs_cons (g_nm 3 c_time_read.nd) (gs_cons (g_nm 4 c_time_read.nd) gs_nil)))))
    (ss_cons (s_if (WOk.t (w_or (t_cmp (o_ne hr.r) (EOk.bo (e_callTy c_str m_str (by decide +kernel) (ab_cons (b_var 2) ab_nil))) (b_sub (hu_of hr.r) (b_var 1) (EOk.bo e_int))) (w_or (t_cmp o_ge (b_var 3) (EOk.bo (e_globI m_MINUTE))) (w_or1 (t_cmp o_ge (b_var 4) (EOk.bo (e_globI m_MINUTE))))))) (ss_one (s_raise xc_BadTime rfl tk)) ss_nil)
    (ss_one (s_ret (e_op o_add (EOk.bo (e_op o_add (EOk.bo (e_op o_mul (EOk.bo (e_globI m_HOUR)) (b_var 2))) (EOk.bo (e_op o_mul (EOk.bo (e_globI m_MINUTE)) (b_var 3))))) (b_var 4))))))))))) fun _ _ _ _ _ _ us hl => match us, hl with | [_], _ => rfl
abbrev N_Handicap_plain : List Str := ["self"]
theorem c_Handicap_plain : FnScope N_Handicap_plain ["self"] (defScope s_Handicap_plain) := ⟨rfl, rfl, rfl, by decide +kernel, rfl, by decide +kernel, by decide +kernel⟩
theorem o_Handicap_plain {P : Program} {w : World} {K : PySem.W.Frag} {mg : Str → Option Value} {base : Heap} {f : Addr} {fd : FuncData} (F : Fun K "plain" "Handicap.plain" s_Handicap_plain f fd) (fl_bearing : FldOk K mg "bearing" cs_bearing) (t_word : TabOk P w K mg base "word" 1 ["self"] tab_word) :
    FnG P w K mg base 2 f fd ["self"] (spF ⟨K, mg⟩ 1 [] f_Handicap_plain) := (fn_ok F c_Handicap_plain List.nodup_nil (by
  rintro X W cdv A outer s H E rfl hr tk hp
  exact (ss_one (s_ret (e_tup (a_cons (e_meth0 t_word hr tk (e_var 0)) (a_cons (BOk.eo (b_fld fl_bearing (b_var 0))) a_nil)))))))
abbrev N_Handicap_text : List Str := ["self"]
theorem c_Handicap_text : FnScope N_Handicap_text ["self"] (defScope s_Handicap_text) := ⟨rfl, rfl, rfl, by decide +kernel, rfl, by decide +kernel, by decide +kernel⟩
theorem o_Handicap_text {P : Program} {w : World} {K : PySem.W.Frag} {mg : Str → Option Value} {base : Heap} {f : Addr} {fd : FuncData} (F : Fun K "text" "Handicap.text" s_Handicap_text f fd) (t_word : TabOk P w K mg base "word" 1 ["self"] tab_word) (fl_bearing : FldOk K mg "bearing" cs_bearing) (m_str : mg "str" = none) :
    FnG P w K mg base 2 f fd ["self"] (spF ⟨K, mg⟩ 1 [] f_Handicap_text) := (fn_ok F c_Handicap_text List.nodup_nil (by
  rintro X W cdv A outer s H E rfl hr tk hp
  exact (ss_one (s_ret (e_op o_add (EOk.bo (e_op o_add (EOk.bo (e_meth0 t_word hr tk (e_var 0))) (EOk.bo e_str))) (EOk.bo (e_callTy c_str m_str (by decide +kernel) (ab_cons (b_fld fl_bearing (b_var 0)) ab_nil))))))))
abbrev N_LevelHandicap_plain : List Str := ["self"]
theorem c_LevelHandicap_plain : FnScope N_LevelHandicap_plain ["self"] (defScope s_LevelHandicap_plain) := ⟨rfl, rfl, rfl, by decide +kernel, rfl, by decide +kernel, by decide +kernel⟩
theorem o_LevelHandicap_plain {P : Program} {w : World} {K : PySem.W.Frag} {mg : Str → Option Value} {base : Heap} {f : Addr} {fd : FuncData} (F : Fun K "plain" "LevelHandicap.plain" s_LevelHandicap_plain f fd) (t_word1 : TabOk P w K mg base "word" 1 ["self"] tab_word1) :
    FnG P w K mg base 2 f fd ["self"] (spF ⟨K, mg⟩ 1 [] f_LevelHandicap_plain) := (fn_ok F c_LevelHandicap_plain List.nodup_nil (by
  rintro X W cdv A outer s H E rfl hr tk hp
  exact (ss_one (s_ret (e_tup (a_cons (e_meth0 t_word1 hr tk (e_var 0)) a_nil))))))
abbrev N_LevelHandicap_text : List Str := ["self"]
theorem c_LevelHandicap_text : FnScope N_LevelHandicap_text ["self"] (defScope s_LevelHandicap_text) := ⟨rfl, rfl, rfl, by decide +kernel, rfl, by decide +kernel, by decide +kernel⟩
theorem o_LevelHandicap_text {P : Program} {w : World} {K : PySem.W.Frag} {mg : Str → Option Value} {base : Heap} {f : Addr} {fd : FuncData} (F : Fun K "text" "LevelHandicap.text" s_LevelHandicap_text f fd) (t_word1 : TabOk P w K mg base "word" 1 ["self"] tab_word1) :
    FnG P w K mg base 2 f fd ["self"] (spF ⟨K, mg⟩ 1 [] f_LevelHandicap_text) := (fn_ok F c_LevelHandicap_text List.nodup_nil (by
  rintro X W cdv A outer s H E rfl hr tk hp
  exact (ss_one (s_ret (e_meth0 t_word1 hr tk (e_var 0))))))
abbrev N_number_in : List Str := ["word"]
theorem c_number_in : FnScope N_number_in ["word"] (defScope s_number_in) := ⟨rfl, rfl, rfl, by decide +kernel, rfl, by decide +kernel, by decide +kernel⟩
theorem o_number_in {P : Program} {w : World} {K : PySem.W.Frag} {mg : Str → Option Value} {base : Heap} {f : Addr} {fd : FuncData} (F : Fun K "number_in" "number_in" s_number_in f fd) (g : mg "number_in" = some (.ref f)) (d_are_figures : DefOk P w K mg base "are_figures" 1 ["text", "least", "most"] f_are_figures) (m_MOST_FIGURES : ∃ t, mg "MOST_FIGURES" = some (.int 4 t)) (m_int : mg "int" = none) :
    DefOk P w K mg base "number_in" 2 ["word"] f_number_in := DefOk.mk' F g (fn_ok F c_number_in List.nodup_nil (by
  rintro X W cdv A outer s H E rfl hr tk hp
  exact (ss_cons (s_if (WOk.t (w_or (t_not (t_val (e_fn d_are_figures hr tk (a_cons (e_var 0) (a_cons e_int (a_cons (e_globI m_MOST_FIGURES) a_nil)))))) (w_or1 (WOk.t (w_and (t_cmp (o_eq hr.r) (b_sub (hu_of hr.r) (b_var 0) (EOk.bo e_int)) (EOk.bo e_str)) (w_and1 (t_cmp (o_ne hr.r) (b_var 0) (EOk.bo e_str)))))))) (ss_one (s_ret e_non)) ss_nil)
    (ss_one (s_ret (e_callTy c_int m_int (by decide +kernel) (ab_cons (b_var 0) ab_nil))))))) fun _ _ _ _ _ _ us hl => match us, hl with | [_], _ => rfl
abbrev N_Reader_need_name : List Str := ["self", "word", "rows", "row"]
theorem c_Reader_need_name : FnScope N_Reader_need_name ["self", "word", "rows"] (defScope s_Reader_need_name) := ⟨rfl, rfl, rfl, by decide +kernel, rfl, by decide +kernel, by decide +kernel⟩
theorem o_Reader_need_name {P : Program} {w : World} {K : PySem.W.Frag} {mg : Str → Option Value} {base : Heap} {f : Addr} {fd : FuncData} (F : Fun K "need_name" "Reader.need_name" s_Reader_need_name f fd) (d_is_name : DefOk P w K mg base "is_name" 1 ["word"] f_is_name) (t_need : TabOk P w K mg base "need" 1 ["self", "is_good"] tab_need) :
    FnG P w K mg base 2 f fd ["self", "word", "rows"] (spF ⟨K, mg⟩ 3 [] f_Reader_need_name) := (fn_ok F c_Reader_need_name List.nodup_nil (by
  rintro X W cdv A outer s H E rfl hr tk hp
  exact (ss_one (s_expr (e_meth t_need hr tk (e_var 0) (a_cons (e_and (e_fn d_is_name hr tk (a_cons (e_var 1) a_nil)) (e_one (e_cmp (o_notin hr.r) (b_var 1) (EOk.bo (e_lc rfl c_Reader_need_name.nd (bor := true) (own := [("row", 3)]) (i_any (bor := true) (e_var 2)) (blkOk_by (own := [("row", 3)]) (N := N_Reader_need_name) (sc := defScope s_Reader_need_name) (by decide +kernel)) (by decide) (fun _ _ _ _ _ => (g_nm 3 c_Reader_need_name.nd)) (fun _ _ _ _ _ => ts_nil) (fun _ _ _ _ _ => (BOk.eo (b_sub (hu_of hr.r) (b_var 3) (EOk.bo e_int))))))))) a_nil))))))
abbrev N__law_names : List Str := ["_law_cell", "_law_many", "_law_signs", "_law_row", "_law_at", "_law_long", "_law_step", "_law_found", "_law_k", "_law_sign", "_law_j", "_law_name"]
theorem c__law_names : FnScope N__law_names ["_law_cell", "_law_many"] (defScope s__law_names) := ⟨rfl, rfl, rfl, by decide +kernel, rfl, by decide +kernel, by decide +kernel⟩
theorem o__law_names {P : Program} {w : World} {K : PySem.W.Frag} {mg : Str → Option Value} {base : Heap} {f : Addr} {fd : FuncData} (F : Fun K "_law_names" "_law_names" s__law_names f fd) (g : mg "_law_names" = some (.ref f)) (d__law_mixed : DefOk P w K mg base "_law_mixed" 1 ["_law_cell", "_law_k"] f__law_mixed) (m_range : mg "range" = none) :
    DefOk P w K mg base "_law_names" 2 ["_law_cell", "_law_many"] f__law_names := DefOk.mk' F g (fn_ok F c__law_names List.nodup_nil (by
  rintro X W cdv A outer s H E rfl hr tk hp
  exact (ss_cons (s_set 2 (f := true) c__law_names.nd e_str)
    (ss_cons (s_setLc 3 (f := true) (bor := true) (own := [("_law_j", 10)]) rfl c__law_names.nd (i_rng1 (bor := true) m_range (ab_cons (EOk.bo e_int) ab_nil)) (blkOk_by (own := [("_law_j", 10)]) (N := N__law_names) (sc := defScope s__law_names) (by decide +kernel)) (by decide) (fun _ _ _ _ _ => (g_nm 10 c__law_names.nd)) (fun _ _ _ _ _ => ts_nil) (fun _ _ _ _ _ => (BOk.eo (b_sub (hu_of hr.r) (b_var 2) (EOk.bo (e_op o_mod (EOk.bo (e_fn d__law_mixed hr.blk takes0 (a_cons (e_var 0) (a_cons (e_var 10) a_nil)))) (EOk.bo e_int)))))))
    (ss_cons (s_set 4 (f := true) c__law_names.nd (e_op o_mod (EOk.bo (e_fn d__law_mixed hr tk (a_cons (e_var 0) (a_cons e_int a_nil)))) (EOk.bo e_int)))
    (ss_cons (s_set 5 (f := true) c__law_names.nd (e_op o_add (EOk.bo (e_op o_add (b_var 4) (EOk.bo e_int))) (EOk.bo (e_op o_mod (EOk.bo (e_fn d__law_mixed hr tk (a_cons (e_var 0) (a_cons e_int a_nil)))) (EOk.bo (e_op o_sub (EOk.bo e_int) (b_var 4)))))))
    (ss_cons (s_set 6 (f := true) c__law_names.nd (e_ixF (hu_of hr.r) (e_lst (a_cons e_int (a_cons e_int (a_cons e_int (a_cons e_int (a_cons e_int (a_cons e_int a_nil))))))) (EOk.bo (e_op o_mod (EOk.bo (e_fn d__law_mixed hr tk (a_cons (e_var 0) (a_cons e_int a_nil)))) (EOk.bo e_int)))))
    (ss_cons (s_set 7 (f := false) c__law_names.nd (e_lst a_nil))
    (ss_cons (s_for hp rfl (i_rng1 (bor := false) m_range (ab_cons (EOk.bo (e_op o_add (b_var 1) (EOk.bo e_int))) ab_nil)) (g_nm 8 c__law_names.nd)
    (ss_cons (s_set 9 (f := true) c__law_names.nd (BOk.eo (b_sub (hu_of hr.r) (b_var 2) (EOk.bo (e_op o_mod (EOk.bo (e_op o_add (EOk.bo (e_fn d__law_mixed hr tk (a_cons (e_var 0) (a_cons e_int a_nil)))) (EOk.bo (e_op o_mul (b_var 6) (b_var 8))))) (EOk.bo e_int))))))
    (ss_one (s_mut PySem.F.slot_list_append PySem.F.type_list_append m_append (pl_var 7) (a_cons (e_join (EOk.bo e_str) (EOk.bo (e_op o_add (EOk.bo (e_op o_add (EOk.bo (e_slice (b_var 3) p_none (p_some (b_var 4)))) (EOk.bo (e_lst (a_cons (e_var 9) a_nil))))) (EOk.bo (e_slice (b_var 3) (p_some (EOk.bo (e_op o_add (b_var 4) (EOk.bo e_int)))) (p_some (b_var 5))))))) a_nil)))))
    (ss_one (s_ret (e_slice (EOk.bo (e_lc rfl c__law_names.nd (bor := true) (own := [("_law_name", 11)]) (i_seqB (b_var 7)) (blkOk_by (own := [("_law_name", 11)]) (N := N__law_names) (sc := defScope s__law_names) (by decide +kernel)) (by decide) (fun _ _ _ _ _ => (g_nm 11 c__law_names.nd)) (fun _ _ _ _ _ => (ts_one (t_cmp (o_ne hr.r) (b_var 11) (EOk.bo e_str)))) (fun _ _ _ _ _ => (e_var 11)))) p_none (p_some (b_var 1)))))))))))))) fun _ _ _ _ _ _ us hl => match us, hl with | [_, _], _ => rfl
abbrev N__law_handicap : List Str := ["_law_cell", "_law_number", "_law_word"]
theorem c__law_handicap : FnScope N__law_handicap ["_law_cell"] (defScope s__law_handicap) := ⟨rfl, rfl, rfl, by decide +kernel, rfl, by decide +kernel, by decide +kernel⟩
theorem o__law_handicap {P : Program} {w : World} {K : PySem.W.Frag} {mg : Str → Option Value} {base : Heap} {f : Addr} {fd : FuncData} (F : Fun K "_law_handicap" "_law_handicap" s__law_handicap f fd) (g : mg "_law_handicap" = some (.ref f)) (d__law_mixed : DefOk P w K mg base "_law_mixed" 1 ["_law_cell", "_law_k"] f__law_mixed) :
    DefOk P w K mg base "_law_handicap" 2 ["_law_cell"] f__law_handicap := DefOk.mk' F g (fn_ok F c__law_handicap List.nodup_nil (by
  rintro X W cdv A outer s H E rfl hr tk hp
  exact (ss_cons (s_set 1 (f := true) c__law_handicap.nd (e_ixF (hu_of hr.r) (e_lst (a_cons e_int (a_cons (e_op o_add (EOk.bo e_int) (EOk.bo (e_op o_mod (EOk.bo (e_fn d__law_mixed hr tk (a_cons (e_var 0) (a_cons e_int a_nil)))) (EOk.bo e_int)))) (a_cons (e_op o_add (EOk.bo e_int) (EOk.bo (e_op o_mod (EOk.bo (e_fn d__law_mixed hr tk (a_cons (e_var 0) (a_cons e_int a_nil)))) (EOk.bo e_int)))) a_nil)))) (EOk.bo (e_op o_mod (EOk.bo (e_fn d__law_mixed hr tk (a_cons (e_var 0) (a_cons e_int a_nil)))) (EOk.bo e_int)))))
    (ss_cons (s_set 2 (f := true) c__law_handicap.nd (e_ixF (hu_of hr.r) (e_lst (a_cons e_str (a_cons e_str (a_cons e_str (a_cons e_str a_nil))))) (EOk.bo (e_op o_mod (EOk.bo (e_fn d__law_mixed hr tk (a_cons (e_var 0) (a_cons e_int a_nil)))) (EOk.bo e_int)))))
    (ss_one (s_ret (e_if (t_cmp (o_eq hr.r) (b_var 2) (EOk.bo e_str)) (e_tup (a_cons (e_var 2) a_nil)) (e_tup (a_cons (e_var 2) (a_cons (e_var 1) a_nil)))))))))) fun _ _ _ _ _ _ us hl => match us, hl with | [_], _ => rfl
abbrev N__law_lines : List Str := ["_law_plain", "_law_found", "_law_name", "_law_fleet", "_law_start", "_law_distance", "_law_told", "_law_boat", "_law_one"]
theorem c__law_lines : FnScope N__law_lines ["_law_plain"] (defScope s__law_lines) := ⟨rfl, rfl, rfl, by decide +kernel, rfl, by decide +kernel, by decide +kernel⟩
theorem o__law_lines {P : Program} {w : World} {K : PySem.W.Frag} {mg : Str → Option Value} {base : Heap} {f : Addr} {fd : FuncData} (F : Fun K "_law_lines" "_law_lines" s__law_lines f fd) (g : mg "_law_lines" = some (.ref f)) (d__law_time_text : DefOk P w K mg base "_law_time_text" 1 ["_law_time"] f__law_time_text) (m_str : mg "str" = none) :
    DefOk P w K mg base "_law_lines" 2 ["_law_plain"] f__law_lines := DefOk.mk' F g (fn_ok F c__law_lines List.nodup_nil (by
  rintro X W cdv A outer s H E rfl hr tk hp
  exact (ss_cons (s_setLc 1 (f := false) (bor := true) (own := [("_law_name", 2), ("_law_told", 6)]) rfl c__law_lines.nd (i_any (bor := true) (e_tp1 (BOk.eo (b_sub (hu_of hr.r) (b_var 0) (EOk.bo e_int))))) (blkOk_by (own := [("_law_name", 2), ("_law_told", 6)]) (N := N__law_lines) (sc := defScope s__law_lines) (by decide +kernel)) (by decide) (fun _ _ _ _ _ => (g_tup rfl (gs_cons (g_nm 2 c__law_lines.nd) (gs_cons (g_nm 6 c__law_lines.nd) gs_nil)))) (fun _ _ _ _ _ => ts_nil) (fun _ _ _ _ _ => (e_join (EOk.bo e_str) (EOk.bo (e_op o_add (EOk.bo (e_lst (a_cons e_str (a_cons (e_var 2) a_nil)))) (EOk.bo (e_lc rfl c__law_lines.nd (bor := true) (own := [("_law_one", 8)]) (i_any (bor := true) (e_var 6)) (blkOk_by (own := [("_law_one", 8)]) (N := N__law_lines) (sc := { kind := ScopeKind.function, names := [(".0", NameKind.local), ("_law_name", NameKind.local), ("_law_told", NameKind.local)], isGenerator := false, isCoroutine := false }) (by decide +kernel)) (by decide) (fun _ _ _ _ _ => (g_nm 8 c__law_lines.nd)) (fun _ _ _ _ _ => ts_nil) (fun _ _ _ _ _ => (e_callTy c_str m_str (by decide +kernel) (ab_cons (b_var 8) ab_nil))))))))))
    (ss_cons (s_mut PySem.F.slot_list_extend PySem.F.type_list_extend m_extend (pl_var 1) (a_cons (e_lc rfl c__law_lines.nd (bor := true) (own := [("_law_boat", 7)]) (i_any (bor := true) (BOk.eo (b_sub (hu_of hr.r) (b_var 0) (EOk.bo e_int)))) (blkOk_by (own := [("_law_boat", 7)]) (N := N__law_lines) (sc := defScope s__law_lines) (by decide +kernel)) (by decide) (fun _ _ _ _ _ => (g_nm 7 c__law_lines.nd)) (fun _ _ _ _ _ => ts_nil) (fun _ _ _ _ _ => (e_join (EOk.bo e_str) (EOk.bo (e_op o_add (EOk.bo (e_tup (a_cons e_str a_nil))) (b_var 7)))))) a_nil))
    (ss_cons (s_if (t_cmp (o_ne hr.r) (b_sub (hu_of hr.r) (b_var 0) (EOk.bo e_int)) (EOk.bo (e_tup a_nil))) (ss_one (s_mut PySem.F.slot_list_append PySem.F.type_list_append m_append (pl_var 1) (a_cons (e_join (EOk.bo e_str) (EOk.bo (e_op o_add (EOk.bo (e_lst (a_cons e_str a_nil))) (EOk.bo (e_lc rfl c__law_lines.nd (bor := true) (own := [("_law_one", 8)]) (i_any (bor := true) (BOk.eo (b_sub (hu_of hr.r) (b_var 0) (EOk.bo e_int)))) (blkOk_by (own := [("_law_one", 8)]) (N := N__law_lines) (sc := defScope s__law_lines) (by decide +kernel)) (by decide) (fun _ _ _ _ _ => (g_nm 8 c__law_lines.nd)) (fun _ _ _ _ _ => ts_nil) (fun _ _ _ _ _ => (e_callTy c_str m_str (by decide +kernel) (ab_cons (b_var 8) ab_nil)))))))) a_nil))) ss_nil)
    (ss_cons (s_for hp rfl (i_any (bor := false) (BOk.eo (b_sub (hu_of hr.r) (b_var 0) (EOk.bo e_int)))) (g_tup rfl (gs_cons (g_nm 2 c__law_lines.nd) (gs_cons (g_nm 3 c__law_lines.nd) (gs_cons (g_nm 4 c__law_lines.nd) (gs_cons (g_nm 5 c__law_lines.nd) gs_nil)))))
    (ss_one (s_mut PySem.F.slot_list_append PySem.F.type_list_append m_append (pl_var 1) (a_cons (e_join (EOk.bo e_str) (EOk.bo (e_lst (a_cons e_str (a_cons (e_var 2) (a_cons (e_var 3) (a_cons (e_fn d__law_time_text hr tk (a_cons (e_var 4) a_nil)) (a_cons (e_callTy c_str m_str (by decide +kernel) (ab_cons (b_var 5) ab_nil)) a_nil)))))))) a_nil))))
    (ss_one (s_retV 1)))))))) fun _ _ _ _ _ _ us hl => match us, hl with | [_], _ => rfl
abbrev N__law_strewn : List Str := ["_law_cell", "_law_lines_here", "_law_found", "_law_k", "_law_line", "_law_way", "_law_gap", "_law_tail"]
theorem c__law_strewn : FnScope N__law_strewn ["_law_cell", "_law_lines_here"] (defScope s__law_strewn) := ⟨rfl, rfl, rfl, by decide +kernel, rfl, by decide +kernel, by decide +kernel⟩
theorem o__law_strewn {P : Program} {w : World} {K : PySem.W.Frag} {mg : Str → Option Value} {base : Heap} {f : Addr} {fd : FuncData} (F : Fun K "_law_strewn" "_law_strewn" s__law_strewn f fd) (g : mg "_law_strewn" = some (.ref f)) (d__law_mixed : DefOk P w K mg base "_law_mixed" 1 ["_law_cell", "_law_k"] f__law_mixed) (m_enumerate : mg "enumerate" = none) :
    DefOk P w K mg base "_law_strewn" 2 ["_law_cell", "_law_lines_here"] f__law_strewn := DefOk.mk' F g (fn_ok F c__law_strewn List.nodup_nil (by
  rintro X W cdv A outer s H E rfl hr tk hp
  exact (ss_cons (s_set 2 (f := false) c__law_strewn.nd (e_lst a_nil))
    (ss_cons (s_for hp rfl (i_enum (bor := false) m_enumerate (a_cons (e_var 1) a_nil)) (g_tup rfl (gs_cons (g_nm 3 c__law_strewn.nd) (gs_cons (g_nm 4 c__law_strewn.nd) gs_nil)))
    (ss_cons (s_set 5 (f := true) c__law_strewn.nd (e_fn d__law_mixed hr tk (a_cons (e_var 0) (a_cons (e_op o_add (EOk.bo e_int) (b_var 3)) a_nil))))
    (ss_cons (s_if (t_cmp (o_eq hr.r) (EOk.bo (e_op o_mod (b_var 5) (EOk.bo e_int))) (EOk.bo e_int)) (ss_one (s_mut PySem.F.slot_list_append PySem.F.type_list_append m_append (pl_var 2) (a_cons (e_ixF (hu_of hr.r) (e_lst (a_cons e_str (a_cons e_str (a_cons e_str (a_cons e_str (a_cons e_str a_nil)))))) (EOk.bo (e_op o_mod (EOk.bo (e_op o_fdiv (b_var 5) (EOk.bo e_int))) (EOk.bo e_int)))) a_nil))) ss_nil)
    (ss_cons (s_set 6 (f := true) c__law_strewn.nd (e_ixF (hu_of hr.r) (e_lst (a_cons e_str (a_cons e_str (a_cons e_str a_nil)))) (EOk.bo (e_op o_mod (EOk.bo (e_op o_fdiv (b_var 5) (EOk.bo e_int))) (EOk.bo e_int)))))
    (ss_cons (s_set 7 (f := true) c__law_strewn.nd (e_ixF (hu_of hr.r) (e_lst (a_cons e_str (a_cons e_str (a_cons e_str (a_cons e_str (a_cons e_str a_nil)))))) (EOk.bo (e_op o_mod (EOk.bo (e_op o_fdiv (b_var 5) (EOk.bo e_int))) (EOk.bo e_int)))))
    (ss_one (s_mut PySem.F.slot_list_append PySem.F.type_list_append m_append (pl_var 2) (a_cons (e_op o_add (EOk.bo (e_op o_add (EOk.bo (e_op o_mulA (EOk.bo e_str) (EOk.bo (e_op o_mod (EOk.bo (e_op o_fdiv (b_var 5) (EOk.bo e_int))) (EOk.bo e_int))))) (EOk.bo (e_join (b_var 6) (EOk.bo (e_split (b_var 4) (EOk.bo e_str))))))) (b_var 7)) a_nil))))))))
    (ss_one (s_ret (e_join (EOk.bo e_str) (EOk.bo (e_op o_add (b_var 2) (EOk.bo (e_slice (EOk.bo (e_lst (a_cons e_str (a_cons e_str a_nil)))) p_none (p_some (EOk.bo (e_op o_mod (EOk.bo (e_fn d__law_mixed hr tk (a_cons (e_var 0) (a_cons e_int a_nil)))) (EOk.bo e_int))))))))))))))) fun _ _ _ _ _ _ us hl => match us, hl with | [_, _], _ => rfl
abbrev N_need_time : List Str := ["thing"]
theorem c_need_time : FnScope N_need_time ["thing"] (defScope s_need_time) := ⟨rfl, rfl, rfl, by decide +kernel, rfl, by decide +kernel, by decide +kernel⟩
theorem o_need_time {P : Program} {w : World} {K : PySem.W.Frag} {mg : Str → Option Value} {base : Heap} {f : Addr} {fd : FuncData} (F : Fun K "need_time" "need_time" s_need_time f fd) (g : mg "need_time" = some (.ref f)) (d_is_time : DefOk P w K mg base "is_time" 2 ["thing"] f_is_time) (xc_BadTime : XcOk K mg "BadTime") :
    DefOk P w K mg base "need_time" 3 ["thing"] f_need_time := DefOk.mk' F g (fn_ok F c_need_time List.nodup_nil (by
  rintro X W cdv A outer s H E rfl hr tk hp
  exact (ss_one (s_if (t_not (t_val (e_fn d_is_time hr tk (a_cons (e_var 0) a_nil)))) (ss_one (s_raise xc_BadTime rfl tk)) ss_nil)))) fun _ _ _ _ _ _ us hl => match us, hl with | [_], _ => rfl
abbrev N_handicap_of : List Str := ["plain", "word"]
theorem c_handicap_of : FnScope N_handicap_of ["plain"] (defScope s_handicap_of) := ⟨rfl, rfl, rfl, by decide +kernel, rfl, by decide +kernel, by decide +kernel⟩
theorem o_handicap_of {P : Program} {w : World} {K : PySem.W.Frag} {mg : Str → Option Value} {base : Heap} {f : Addr} {fd : FuncData} (F : Fun K "handicap_of" "handicap_of" s_handicap_of f fd) (g : mg "handicap_of" = some (.ref f)) (k_FactorHandicap : MkOk P w K mg base "FactorHandicap" 1 ["self", "bearing"] f_Handicap___init__) (k_YardHandicap : MkOk P w K mg base "YardHandicap" 1 ["self", "bearing"] f_Handicap___init__) (k_MileHandicap : MkOk P w K mg base "MileHandicap" 1 ["self", "bearing"] f_Handicap___init__) (k_LevelHandicap : MkOk P w K mg base "LevelHandicap" 1 ["self", "bearing"] f_Handicap___init__) :
    DefOk P w K mg base "handicap_of" 3 ["plain"] f_handicap_of := DefOk.mk' F g (fn_ok F c_handicap_of List.nodup_nil (by
  rintro X W cdv A outer s H E rfl hr tk hp
  exact (ss_cons (s_set 1 (f := true) c_handicap_of.nd (BOk.eo (b_sub (hu_of hr.r) (b_var 0) (EOk.bo e_int))))
    (ss_cons (s_if (t_cmp (o_eq hr.r) (b_var 1) (EOk.bo e_str)) (ss_one (s_ret (e_make k_FactorHandicap hr tk (a_cons (BOk.eo (b_sub (hu_of hr.r) (b_var 0) (EOk.bo e_int))) a_nil)))) ss_nil)
    (ss_cons (s_if (t_cmp (o_eq hr.r) (b_var 1) (EOk.bo e_str)) (ss_one (s_ret (e_make k_YardHandicap hr tk (a_cons (BOk.eo (b_sub (hu_of hr.r) (b_var 0) (EOk.bo e_int))) a_nil)))) ss_nil)
    (ss_cons (s_if (t_cmp (o_eq hr.r) (b_var 1) (EOk.bo e_str)) (ss_one (s_ret (e_make k_MileHandicap hr tk (a_cons (BOk.eo (b_sub (hu_of hr.r) (b_var 0) (EOk.bo e_int))) a_nil)))) ss_nil)
    (ss_one (s_ret (e_make k_LevelHandicap hr tk (a_cons e_int a_nil)))))))))) fun _ _ _ _ _ _ us hl => match us, hl with | [_], _ => rfl
abbrev N_Meeting_plain : List Str := ["self", "classes", "name", "kind"]
theorem c_Meeting_plain : FnScope N_Meeting_plain ["self"] (defScope s_Meeting_plain) := ⟨rfl, rfl, rfl, by decide +kernel, rfl, by decide +kernel, by decide +kernel⟩
theorem o_Meeting_plain {P : Program} {w : World} {K : PySem.W.Frag} {mg : Str → Option Value} {base : Heap} {f : Addr} {fd : FuncData} (F : Fun K "plain" "Meeting.plain" s_Meeting_plain f fd) (fl_kinds : FldOk K mg "kinds" cs_kinds) (t_plain : TabOk P w K mg base "plain" 2 ["self"] tab_plain) (fl_runs : FldOk K mg "runs" cs_runs) (fl_limits : FldOk K mg "limits" cs_limits) (fl_crews : FldOk K mg "crews" cs_crews) (m_tuple : mg "tuple" = none) :
    FnG P w K mg base 3 f fd ["self"] (spF ⟨K, mg⟩ 1 [] f_Meeting_plain) := (fn_ok F c_Meeting_plain List.nodup_nil (by
  rintro X W cdv A outer s H E rfl hr tk hp
  exact (ss_cons (s_set 1 (f := true) c_Meeting_plain.nd (e_callTy c_tuple m_tuple (by decide +kernel) (ab_cons (EOk.bo (e_lc rfl c_Meeting_plain.nd (bor := true) (own := [("name", 2), ("kind", 3)]) (i_items (bor := true) (BOk.eo (b_fld fl_kinds (b_var 0)))) (blkOk_by (own := [("name", 2), ("kind", 3)]) (N := N_Meeting_plain) (sc := defScope s_Meeting_plain) (by decide +kernel)) (by decide) (fun _ _ _ _ _ => (g_tup rfl (gs_cons (g_nm 2 c_Meeting_plain.nd) (gs_cons (g_nm 3 c_Meeting_plain.nd) gs_nil)))) (fun _ _ _ _ _ => ts_nil) (fun _ _ _ _ _ => (e_tup (a_cons (e_var 2) (a_cons (e_meth0 t_plain hr.blk takes0 (e_var 3)) a_nil)))))) ab_nil)))
    (ss_one (s_ret (e_tup (a_cons (e_var 1) (a_cons (e_tupVals rfl m_tuple (b_fld fl_crews (b_var 0))) (a_cons (BOk.eo (b_fld fl_limits (b_var 0))) (a_cons (e_tupVals rfl m_tuple (b_fld fl_runs (b_var 0))) a_nil))))))))))
abbrev N_time_in : List Str := ["word", "found"]
theorem c_time_in : FnScope N_time_in ["word"] (defScope s_time_in) := ⟨rfl, rfl, rfl, by decide +kernel, rfl, by decide +kernel, by decide +kernel⟩
theorem o_time_in {P : Program} {w : World} {K : PySem.W.Frag} {mg : Str → Option Value} {base : Heap} {f : Addr} {fd : FuncData} (F : Fun K "time_in" "time_in" s_time_in f fd) (g : mg "time_in" = some (.ref f)) (d_time_read : DefOk P w K mg base "time_read" 2 ["text"] f_time_read) (s_sub_BadTime : SubOk K mg "BadTime" sub_BadTime) :
    DefOk P w K mg base "time_in" 3 ["word"] f_time_in := DefOk.mk' F g (fn_ok F c_time_in List.nodup_nil (by
  rintro X W cdv A outer s H E rfl hr tk hp
  exact (ss_cons (s_set 1 (f := true) c_time_in.nd e_non)
    (ss_cons (s_tryH rfl rfl tk (fun _ _ _ tk hp => (ss_one (s_set 1 (f := true) c_time_in.nd (e_fn d_time_read hr.tr tk (a_cons (e_var 0) a_nil))))) (.cons s_sub_BadTime (fun _ _ => (ss_one (s_set 1 (f := true) c_time_in.nd e_non))) .nil))
    (ss_one (s_ret (e_var 1))))))) fun _ _ _ _ _ _ us hl => match us, hl with | [_], _ => rfl
abbrev N_handicap_in : List Str := ["words", "number"]
theorem c_handicap_in : FnScope N_handicap_in ["words"] (defScope s_handicap_in) := ⟨rfl, rfl, rfl, by decide +kernel, rfl, by decide +kernel, by decide +kernel⟩
theorem o_handicap_in {P : Program} {w : World} {K : PySem.W.Frag} {mg : Str → Option Value} {base : Heap} {f : Addr} {fd : FuncData} (F : Fun K "handicap_in" "handicap_in" s_handicap_in f fd) (g : mg "handicap_in" = some (.ref f)) (d_number_in : DefOk P w K mg base "number_in" 2 ["word"] f_number_in) (gt_NUMBERED : GTup K mg "NUMBERED" [.str "factor", .str "yard", .str "mile"]) (m_MOST_NUMBER : ∃ t, mg "MOST_NUMBER" = some (.int 5000 t)) (m_len : mg "len" = none) :
    DefOk P w K mg base "handicap_in" 3 ["words"] f_handicap_in := DefOk.mk' F g (fn_ok F c_handicap_in List.nodup_nil (by
  rintro X W cdv A outer s H E rfl hr tk hp
  exact (ss_cons (s_if (t_cmp (o_eq hr.r) (b_var 0) (EOk.bo (e_lst (a_cons e_str a_nil)))) (ss_one (s_ret (e_tup (a_cons e_str a_nil)))) ss_nil)
    (ss_cons (s_if (WOk.t (w_or (t_cmp (o_ne hr.r) (EOk.bo (e_callB c_lenX m_len (by decide +kernel) (ab_cons (b_var 0) ab_nil))) (EOk.bo e_int)) (w_or1 (t_cmp (o_notin hr.r) (b_sub (hu_of hr.r) (b_var 0) (EOk.bo e_int)) (EOk.bo (e_globT gt_NUMBERED)))))) (ss_one (s_ret e_non)) ss_nil)
    (ss_cons (s_set 1 (f := true) c_handicap_in.nd (e_fn d_number_in hr tk (a_cons (BOk.eo (b_sub (hu_of hr.r) (b_var 0) (EOk.bo e_int))) a_nil)))
    (ss_cons (s_if (WOk.t (w_or (t_cmp o_is (b_var 1) (EOk.bo e_non)) (w_or1 (t_not (t_chain o_le o_le (EOk.bo e_int) (b_var 1) (EOk.bo (e_globI m_MOST_NUMBER))))))) (ss_one (s_ret e_non)) ss_nil)
    (ss_one (s_ret (e_tup (a_cons (BOk.eo (b_sub (hu_of hr.r) (b_var 0) (EOk.bo e_int))) (a_cons (e_var 1) a_nil))))))))))) fun _ _ _ _ _ _ us hl => match us, hl with | [_], _ => rfl
abbrev N_Reader_boat_line : List Str := ["self", "words", "row"]
theorem c_Reader_boat_line : FnScope N_Reader_boat_line ["self", "words"] (defScope s_Reader_boat_line) := ⟨rfl, rfl, rfl, by decide +kernel, rfl, by decide +kernel, by decide +kernel⟩
theorem o_Reader_boat_line {P : Program} {w : World} {K : PySem.W.Frag} {mg : Str → Option Value} {base : Heap} {f : Addr} {fd : FuncData} (F : Fun K "boat_line" "Reader.boat_line" s_Reader_boat_line f fd) (d_is_name : DefOk P w K mg base "is_name" 1 ["word"] f_is_name) (t_need : TabOk P w K mg base "need" 1 ["self", "is_good"] tab_need) (fl_crews_R : FldOk K mg "crews" cs_crews_R) (t_need_name : TabOk P w K mg base "need_name" 2 ["self", "word", "rows"] tab_need_name) (fl_classes_R : FldOk K mg "classes" cs_classes_R) (t_fleets : TabOk P w K mg base "fleets" 1 ["self"] tab_fleets) (m_MOST_BOATS : ∃ t, mg "MOST_BOATS" = some (.int 24 t)) (m_MOST_FLEETS : ∃ t, mg "MOST_FLEETS" = some (.int 3 t)) (m_len : mg "len" = none) :
    FnG P w K mg base 3 f fd ["self", "words"] (spF ⟨K, mg⟩ 2 [0] f_Reader_boat_line) := (fn_ok F c_Reader_boat_line (by decide) (by
  rintro X W cdv A outer s H E rfl hr tk hp
  exact (ss_cons (s_expr (e_viewL 0 (e_meth t_need hr tk (e_var 0) (a_cons (e_and (e_cmp o_lt (EOk.bo (e_callB c_lenX m_len (by decide +kernel) (ab_cons (b_fld fl_crews_R (b_var 0)) ab_nil))) (EOk.bo (e_globI m_MOST_BOATS))) (e_one (e_cmp (o_eq hr.r) (EOk.bo (e_callB c_lenX m_len (by decide +kernel) (ab_cons (b_var 1) ab_nil))) (EOk.bo e_int)))) a_nil))))
    (ss_cons (s_expr (e_viewL 0 (e_meth t_need_name hr tk (e_var 0) (a_cons (BOk.eo (b_sub (hu_of hr.r) (b_var 1) (EOk.bo e_int))) (a_cons (BOk.eo (b_fld fl_crews_R (b_var 0))) a_nil)))))
    (ss_cons (s_expr (e_viewL 0 (e_meth t_need hr tk (e_var 0) (a_cons (e_and (e_cmp (o_in hr.r) (b_sub (hu_of hr.r) (b_var 1) (EOk.bo e_int)) (EOk.bo (e_lc rfl c_Reader_boat_line.nd (bor := true) (own := [("row", 2)]) (i_any (bor := true) (BOk.eo (b_fld fl_classes_R (b_var 0)))) (blkOk_by (own := [("row", 2)]) (N := N_Reader_boat_line) (sc := defScope s_Reader_boat_line) (by decide +kernel)) (by decide) (fun _ _ _ _ _ => (g_nm 2 c_Reader_boat_line.nd)) (fun _ _ _ _ _ => ts_nil) (fun _ _ _ _ _ => (BOk.eo (b_sub (hu_of hr.r) (b_var 2) (EOk.bo e_int))))))) (e_one (e_fn d_is_name hr tk (a_cons (BOk.eo (b_sub (hu_of hr.r) (b_var 1) (EOk.bo e_int))) a_nil)))) a_nil))))
    (ss_cons (s_expr (e_viewL 0 (e_meth t_need hr tk (e_var 0) (a_cons (e_or (e_cmp (o_in hr.r) (b_sub (hu_of hr.r) (b_var 1) (EOk.bo e_int)) (EOk.bo (e_meth0 t_fleets hr tk (e_var 0)))) (e_one (e_cmp o_lt (EOk.bo (e_callB c_lenX m_len (by decide +kernel) (ab_cons (EOk.bo (e_meth0 t_fleets hr tk (e_var 0))) ab_nil))) (EOk.bo (e_globI m_MOST_FLEETS))))) a_nil))))
    (ss_one (s_mut PySem.F.slot_list_append PySem.F.type_list_append m_append (pl_fld fl_crews_R (pl_var 0)) (a_cons (e_tup (a_cons (BOk.eo (b_sub (hu_of hr.r) (b_var 1) (EOk.bo e_int))) (a_cons (BOk.eo (b_sub (hu_of hr.r) (b_var 1) (EOk.bo e_int))) (a_cons (BOk.eo (b_sub (hu_of hr.r) (b_var 1) (EOk.bo e_int))) a_nil)))) a_nil)))))))))
abbrev N_Reader_drops_line : List Str := ["self", "words", "word", "number"]
theorem c_Reader_drops_line : FnScope N_Reader_drops_line ["self", "words"] (defScope s_Reader_drops_line) := ⟨rfl, rfl, rfl, by decide +kernel, rfl, by decide +kernel, by decide +kernel⟩
theorem o_Reader_drops_line {P : Program} {w : World} {K : PySem.W.Frag} {mg : Str → Option Value} {base : Heap} {f : Addr} {fd : FuncData} (F : Fun K "drops_line" "Reader.drops_line" s_Reader_drops_line f fd) (d_number_in : DefOk P w K mg base "number_in" 2 ["word"] f_number_in) (t_need : TabOk P w K mg base "need" 1 ["self", "is_good"] tab_need) (fl_crews_R : FldOk K mg "crews" cs_crews_R) (fl_limits_R : FldOk K mg "limits" cs_limits_R) (m_LAST_DROP : ∃ t, mg "LAST_DROP" = some (.int 12 t)) (m_MOST_DROPS : ∃ t, mg "MOST_DROPS" = some (.int 3 t)) (m_len : mg "len" = none) :
    FnG P w K mg base 3 f fd ["self", "words"] (spF ⟨K, mg⟩ 2 [0] f_Reader_drops_line) := (fn_ok F c_Reader_drops_line (by decide) (by
  rintro X W cdv A outer s H E rfl hr tk hp
  exact (ss_cons (s_expr (e_viewL 0 (e_meth t_need hr tk (e_var 0) (a_cons (e_and (e_cmp (o_ne hr.r) (b_fld fl_crews_R (b_var 0)) (EOk.bo (e_lst a_nil))) (e_and (e_cmp (o_eq hr.r) (b_fld fl_limits_R (b_var 0)) (EOk.bo (e_lst a_nil))) (e_one (e_chain o_le o_le (EOk.bo e_int) (EOk.bo (e_callB c_lenX m_len (by decide +kernel) (ab_cons (b_var 1) ab_nil))) (EOk.bo (e_globI m_MOST_DROPS)))))) a_nil))))
    (ss_one (s_for hp rfl (i_any (bor := false) (e_var 1)) (g_nm 2 c_Reader_drops_line.nd)
    (ss_cons (s_set 3 (f := true) c_Reader_drops_line.nd (e_fn d_number_in hr tk (a_cons (e_var 2) a_nil)))
    (ss_cons (s_expr (e_viewL 0 (e_meth t_need hr tk (e_var 0) (a_cons (e_and (e_cmp o_isnot (b_var 3) (EOk.bo e_non)) (e_one (e_chain o_le o_le (EOk.bo e_int) (b_var 3) (EOk.bo (e_globI m_LAST_DROP))))) a_nil))))
    (ss_cons (s_expr (e_viewL 0 (e_meth t_need hr tk (e_var 0) (a_cons (e_or (e_cmp (o_eq hr.r) (b_fld fl_limits_R (b_var 0)) (EOk.bo (e_lst a_nil))) (e_one (e_cmp o_lt (b_sub (hu_of hr.r) (b_fld fl_limits_R (b_var 0)) (EOk.bo (e_neg (EOk.bo e_int)))) (b_var 3)))) a_nil))))
    (ss_one (s_mut PySem.F.slot_list_append PySem.F.type_list_append m_append (pl_fld fl_limits_R (pl_var 0)) (a_cons (e_var 3) a_nil)))))))))))
abbrev N__law_meeting : List Str := ["_law_script", "_law_boats", "_law_races", "_law_names_here", "_law_classes", "_law_k", "_law_sails", "_law_fleets", "_law_found", "_law_many", "_law_drops", "_law_told", "_law_rows", "_law_called", "_law_mixed_here", "_law_opening", "_law_boat"]
theorem c__law_meeting : FnScope N__law_meeting ["_law_script", "_law_boats", "_law_races"] (defScope s__law_meeting) := ⟨rfl, rfl, rfl, by decide +kernel, rfl, by decide +kernel, by decide +kernel⟩
theorem o__law_meeting {P : Program} {w : World} {K : PySem.W.Frag} {mg : Str → Option Value} {base : Heap} {f : Addr} {fd : FuncData} (F : Fun K "_law_meeting" "_law_meeting" s__law_meeting f fd) (g : mg "_law_meeting" = some (.ref f)) (d__law_cell_at : DefOk P w K mg base "_law_cell_at" 1 ["_law_script", "_law_k"] f__law_cell_at) (d__law_mixed : DefOk P w K mg base "_law_mixed" 1 ["_law_cell", "_law_k"] f__law_mixed) (d__law_names : DefOk P w K mg base "_law_names" 2 ["_law_cell", "_law_many"] f__law_names) (d__law_handicap : DefOk P w K mg base "_law_handicap" 2 ["_law_cell"] f__law_handicap) (m_len : mg "len" = none) (m_range : mg "range" = none) (m_set : mg "set" = none) (m_sorted : mg "sorted" = none) (m_tuple : mg "tuple" = none) :
    DefOk P w K mg base "_law_meeting" 3 ["_law_script", "_law_boats", "_law_races"] f__law_meeting := DefOk.mk' F g (fn_ok F c__law_meeting List.nodup_nil (by
  rintro X W cdv A outer s H E rfl hr tk hp
  exact (ss_cons (s_set 3 (f := true) c__law_meeting.nd (e_fn d__law_names hr tk (a_cons (e_fn d__law_mixed hr tk (a_cons (e_fn d__law_cell_at hr tk (a_cons (e_var 0) (a_cons e_int a_nil))) (a_cons e_int a_nil))) (a_cons e_int a_nil))))
    (ss_cons (s_set 4 (f := false) c__law_meeting.nd (e_lst a_nil))
    (ss_cons (s_for hp rfl (i_rng1 (bor := false) m_range (ab_cons (EOk.bo (e_op o_add (EOk.bo e_int) (EOk.bo (e_op o_mod (EOk.bo (e_fn d__law_cell_at hr tk (a_cons (e_var 0) (a_cons e_int a_nil)))) (EOk.bo e_int))))) ab_nil)) (g_nm 5 c__law_meeting.nd)
    (ss_one (s_mut PySem.F.slot_list_append PySem.F.type_list_append m_append (pl_var 4) (a_cons (e_tup (a_cons (BOk.eo (b_sub (hu_of hr.r) (b_var 3) (b_var 5))) (a_cons (e_fn d__law_handicap hr tk (a_cons (e_fn d__law_mixed hr tk (a_cons (e_fn d__law_cell_at hr tk (a_cons (e_var 0) (a_cons e_int a_nil))) (a_cons (e_op o_add (EOk.bo e_int) (b_var 5)) a_nil))) a_nil)) a_nil))) a_nil))))
    (ss_cons (s_set 6 (f := true) c__law_meeting.nd (e_fn d__law_names hr tk (a_cons (e_fn d__law_mixed hr tk (a_cons (e_fn d__law_cell_at hr tk (a_cons (e_var 0) (a_cons e_int a_nil))) (a_cons e_int a_nil))) (a_cons e_int a_nil))))
    (ss_cons (s_set 7 (f := true) c__law_meeting.nd (e_slice (EOk.bo (e_fn d__law_names hr tk (a_cons (e_fn d__law_mixed hr tk (a_cons (e_fn d__law_cell_at hr tk (a_cons (e_var 0) (a_cons e_int a_nil))) (a_cons e_int a_nil))) (a_cons e_int a_nil)))) p_none (p_some (EOk.bo (e_op o_add (EOk.bo e_int) (EOk.bo (e_op o_mod (EOk.bo (e_fn d__law_cell_at hr tk (a_cons (e_var 0) (a_cons e_int a_nil)))) (EOk.bo e_int))))))))
    (ss_cons (s_set 8 (f := false) c__law_meeting.nd (e_lst a_nil))
    (ss_cons (s_for hp rfl (i_rng1 (bor := false) m_range (ab_cons (EOk.bo (e_op o_add (EOk.bo e_int) (EOk.bo (e_op o_mod (EOk.bo (e_fn d__law_mixed hr tk (a_cons (e_fn d__law_cell_at hr tk (a_cons (e_var 0) (a_cons e_int a_nil))) (a_cons e_int a_nil)))) (b_var 1))))) ab_nil)) (g_nm 5 c__law_meeting.nd)
    (ss_cons (s_set 14 (f := true) c__law_meeting.nd (e_fn d__law_mixed hr tk (a_cons (e_fn d__law_cell_at hr tk (a_cons (e_var 0) (a_cons e_int a_nil))) (a_cons (e_op o_add (EOk.bo e_int) (b_var 5)) a_nil))))
    (ss_one (s_mut PySem.F.slot_list_append PySem.F.type_list_append m_append (pl_var 8) (a_cons (e_tup (a_cons (BOk.eo (b_sub (hu_of hr.r) (b_var 6) (b_var 5))) (a_cons (BOk.eo (b_sub (hu_of hr.r) (b_sub (hu_of hr.r) (b_var 4) (EOk.bo (e_op o_mod (b_var 14) (EOk.bo (e_callB c_lenX m_len (by decide +kernel) (ab_cons (b_var 4) ab_nil)))))) (EOk.bo e_int))) (a_cons (BOk.eo (b_sub (hu_of hr.r) (b_var 7) (EOk.bo (e_op o_mod (EOk.bo (e_op o_fdiv (b_var 14) (EOk.bo e_int))) (EOk.bo (e_callB c_lenX m_len (by decide +kernel) (ab_cons (b_var 7) ab_nil))))))) a_nil)))) a_nil)))))
    (ss_cons (s_set 9 (f := true) c__law_meeting.nd (e_op o_mod (EOk.bo (e_op o_fdiv (EOk.bo (e_fn d__law_cell_at hr tk (a_cons (e_var 0) (a_cons e_int a_nil)))) (EOk.bo e_int))) (EOk.bo e_int)))
    (ss_cons (s_setLc 10 (f := true) (bor := true) (own := [("_law_k", 5)]) rfl c__law_meeting.nd (i_rng1 (bor := true) m_range (ab_cons (b_var 9) ab_nil)) (blkOk_by (own := [("_law_k", 5)]) (N := N__law_meeting) (sc := defScope s__law_meeting) (by decide +kernel)) (by decide) (fun _ _ _ _ _ => (g_nm 5 c__law_meeting.nd)) (fun _ _ _ _ _ => ts_nil) (fun _ _ _ _ _ => (e_op o_add (EOk.bo e_int) (EOk.bo (e_op o_mod (EOk.bo (e_fn d__law_mixed hr.blk takes0 (a_cons (e_fn d__law_cell_at hr.blk takes0 (a_cons (e_var 0) (a_cons e_int a_nil))) (a_cons (e_op o_add (EOk.bo e_int) (b_var 5)) a_nil)))) (b_sub (hu_of hr.r) (EOk.bo (e_lst (a_cons e_int (a_cons e_int (a_cons e_int a_nil))))) (EOk.bo (e_op o_mod (b_var 5) (EOk.bo e_int)))))))))
    (ss_cons (s_set 11 (f := true) c__law_meeting.nd (e_op o_add (EOk.bo (e_lc rfl c__law_meeting.nd (bor := true) (own := [("_law_boat", 16)]) (i_seqB (b_var 8)) (blkOk_by (own := [("_law_boat", 16)]) (N := N__law_meeting) (sc := defScope s__law_meeting) (by decide +kernel)) (by decide) (fun _ _ _ _ _ => (g_nm 16 c__law_meeting.nd)) (fun _ _ _ _ _ => ts_nil) (fun _ _ _ _ _ => (BOk.eo (b_sub (hu_of hr.r) (b_var 16) (EOk.bo e_int)))))) (EOk.bo (e_lst (a_cons e_str a_nil)))))
    (ss_cons (s_set 12 (f := false) c__law_meeting.nd (e_lst a_nil))
    (ss_cons (s_set 13 (f := true) c__law_meeting.nd (e_fn d__law_names hr tk (a_cons (e_fn d__law_mixed hr tk (a_cons (e_fn d__law_cell_at hr tk (a_cons (e_var 0) (a_cons e_int a_nil))) (a_cons e_int a_nil))) (a_cons e_int a_nil))))
    (ss_cons (s_for hp rfl (i_rng1 (bor := false) m_range (ab_cons (EOk.bo (e_op o_mod (EOk.bo (e_fn d__law_mixed hr tk (a_cons (e_fn d__law_cell_at hr tk (a_cons (e_var 0) (a_cons e_int a_nil))) (a_cons e_int a_nil)))) (EOk.bo (e_op o_add (b_var 2) (EOk.bo e_int))))) ab_nil)) (g_nm 5 c__law_meeting.nd)
    (ss_cons (s_set 14 (f := true) c__law_meeting.nd (e_fn d__law_mixed hr tk (a_cons (e_fn d__law_cell_at hr tk (a_cons (e_var 0) (a_cons e_int a_nil))) (a_cons (e_op o_add (EOk.bo e_int) (b_var 5)) a_nil))))
    (ss_cons (s_set 15 (f := true) c__law_meeting.nd (e_ixF (hu_of hr.r) (e_lst (a_cons e_int (a_cons (e_op o_mod (b_var 14) (EOk.bo e_int)) (a_cons (e_op o_mod (b_var 14) (EOk.bo e_int)) a_nil)))) (EOk.bo (e_op o_mod (b_var 14) (EOk.bo e_int)))))
    (ss_one (s_mut PySem.F.slot_list_append PySem.F.type_list_append m_append (pl_var 12) (a_cons (e_tup (a_cons (BOk.eo (b_sub (hu_of hr.r) (b_var 13) (b_var 5))) (a_cons (BOk.eo (b_sub (hu_of hr.r) (b_var 11) (EOk.bo (e_op o_mod (EOk.bo (e_op o_fdiv (b_var 14) (EOk.bo e_int))) (EOk.bo (e_callB c_lenX m_len (by decide +kernel) (ab_cons (b_var 11) ab_nil))))))) (a_cons (e_var 15) (a_cons (e_op o_mod (EOk.bo (e_op o_fdiv (b_var 14) (EOk.bo e_int))) (b_sub (hu_of hr.r) (EOk.bo (e_lst (a_cons e_int (a_cons e_int (a_cons e_int a_nil))))) (EOk.bo (e_op o_mod (b_var 14) (EOk.bo e_int))))) a_nil))))) a_nil))))))
    (ss_one (s_ret (e_tup (a_cons (e_callTy c_tux m_tuple (by decide +kernel) (ab_cons (b_var 4) ab_nil)) (a_cons (e_callTy c_tuple m_tuple (by decide +kernel) (ab_cons (b_var 8) ab_nil)) (a_cons (e_callTy c_tuple m_tuple (by decide +kernel) (ab_cons (EOk.bo (e_sortSet rfl m_sorted m_set (b_var 10))) ab_nil)) (a_cons (e_callTy c_tuple m_tuple (by decide +kernel) (ab_cons (b_var 12) ab_nil)) a_nil)))))))))))))))))))))) fun _ _ _ _ _ _ us hl => match us, hl with | [_, _, _], _ => rfl
abbrev N_time_text : List Str := ["time", "hours", "rest", "minutes", "seconds"]
theorem c_time_text : FnScope N_time_text ["time"] (defScope s_time_text) := ⟨rfl, rfl, rfl, by decide +kernel, rfl, by decide +kernel, by decide +kernel⟩
theorem o_time_text {P : Program} {w : World} {K : PySem.W.Frag} {mg : Str → Option Value} {base : Heap} {f : Addr} {fd : FuncData} (F : Fun K "time_text" "time_text" s_time_text f fd) (g : mg "time_text" = some (.ref f)) (d_need_time : DefOk P w K mg base "need_time" 3 ["thing"] f_need_time) (m_HOUR : ∃ t, mg "HOUR" = some (.int 3600 t)) (m_MINUTE : ∃ t, mg "MINUTE" = some (.int 60 t)) (m_divmod : mg "divmod" = none) (m_str : mg "str" = none) :
    DefOk P w K mg base "time_text" 4 ["time"] f_time_text := DefOk.mk' F g (fn_ok F c_time_text List.nodup_nil (by
  rintro X W cdv A outer s H E rfl hr tk hp
  exact (ss_cons (s_expr (e_fn d_need_time hr tk (a_cons (e_var 0) a_nil)))
    (ss_cons (s_asg (f := true) (e_callB c_divmod m_divmod (by decide +kernel) (ab_cons (b_var 0) (ab_cons (EOk.bo (e_globI m_HOUR)) ab_nil))) (g_tup rfl (gs_cons (g_nm 1 c_time_text.nd) (gs_cons (g_nm 2 c_time_text.nd) gs_nil))))
    (ss_cons (s_asg (f := true) (e_callB c_divmod m_divmod (by decide +kernel) (ab_cons (b_var 2) (ab_cons (EOk.bo (e_globI m_MINUTE)) ab_nil))) (g_tup rfl (gs_cons (g_nm 3 c_time_text.nd) (gs_cons (g_nm 4 c_time_text.nd) gs_nil))))
    (ss_one (s_ret (e_op o_add (EOk.bo (e_op o_add (EOk.bo (e_op o_add (EOk.bo (e_op o_add (EOk.bo (e_callTy c_str m_str (by decide +kernel) (ab_cons (b_var 1) ab_nil))) (EOk.bo e_str))) (EOk.bo (e_zfill (EOk.bo (e_callTy c_str m_str (by decide +kernel) (ab_cons (b_var 3) ab_nil))) (EOk.bo e_int))))) (EOk.bo e_str))) (EOk.bo (e_zfill (EOk.bo (e_callTy c_str m_str (by decide +kernel) (ab_cons (b_var 4) ab_nil))) (EOk.bo e_int))))))))))) fun _ _ _ _ _ _ us hl => match us, hl with | [_], _ => rfl
abbrev N_Meeting___init__ : List Str := ["self", "plain", "classes", "boats", "drops", "races", "boat", "race", "name", "told"]
theorem c_Meeting___init__ : FnScope N_Meeting___init__ ["self", "plain"] (defScope s_Meeting___init__) := ⟨rfl, rfl, rfl, by decide +kernel, rfl, by decide +kernel, by decide +kernel⟩
theorem o_Meeting___init__ {P : Program} {w : World} {K : PySem.W.Frag} {mg : Str → Option Value} {base : Heap} {f : Addr} {fd : FuncData} (F : Fun K "__init__" "Meeting.__init__" s_Meeting___init__ f fd) (d_handicap_of : DefOk P w K mg base "handicap_of" 3 ["plain"] f_handicap_of) (fl_kinds : FldOk K mg "kinds" cs_kinds) (fl_crews : FldOk K mg "crews" cs_crews) (fl_limits : FldOk K mg "limits" cs_limits) (fl_runs : FldOk K mg "runs" cs_runs) (m_dict : mg "dict" = none) (m_tuple : mg "tuple" = none) :
    FnG P w K mg base 4 f fd ["self", "plain"] (spF ⟨K, mg⟩ 2 [0] f_Meeting___init__) := (fn_ok F c_Meeting___init__ (by decide) (by
  rintro X W cdv A outer s H E rfl hr tk hp
  exact (ss_cons (s_asg (f := true) (e_var 1) (g_tup rfl (gs_cons (g_nm 2 c_Meeting___init__.nd) (gs_cons (g_nm 3 c_Meeting___init__.nd) (gs_cons (g_nm 4 c_Meeting___init__.nd) (gs_cons (g_nm 5 c_Meeting___init__.nd) gs_nil))))))
    (ss_cons (s_setF true fl_kinds (pl_var 0) (e_dict rfl m_dict (e_lc rfl c_Meeting___init__.nd (bor := true) (own := [("name", 8), ("told", 9)]) (i_any (bor := true) (e_tp1 (e_var 2))) (blkOk_by (own := [("name", 8), ("told", 9)]) (N := N_Meeting___init__) (sc := defScope s_Meeting___init__) (by decide +kernel)) (by decide) (fun _ _ _ _ _ => (g_tup rfl (gs_cons (g_nm 8 c_Meeting___init__.nd) (gs_cons (g_nm 9 c_Meeting___init__.nd) gs_nil)))) (fun _ _ _ _ _ => ts_nil) (fun _ _ _ _ _ => (e_tup (a_cons (e_var 8) (a_cons (e_fn d_handicap_of hr.blk takes0 (a_cons (e_var 9) a_nil)) a_nil)))))))
    (ss_cons (s_setF true fl_crews (pl_var 0) (e_dict rfl m_dict (e_lc rfl c_Meeting___init__.nd (bor := true) (own := [("boat", 6)]) (i_any (bor := true) (e_var 3)) (blkOk_by (own := [("boat", 6)]) (N := N_Meeting___init__) (sc := defScope s_Meeting___init__) (by decide +kernel)) (by decide) (fun _ _ _ _ _ => (g_nm 6 c_Meeting___init__.nd)) (fun _ _ _ _ _ => ts_nil) (fun _ _ _ _ _ => (e_tup (a_cons (BOk.eo (b_sub (hu_of hr.r) (b_var 6) (EOk.bo e_int))) (a_cons (e_var 6) a_nil)))))))
    (ss_cons (s_setF true fl_limits (pl_var 0) (e_callTy c_tuple m_tuple (by decide +kernel) (ab_cons (b_var 4) ab_nil)))
    (ss_one (s_setF true fl_runs (pl_var 0) (e_dict rfl m_dict (e_lc rfl c_Meeting___init__.nd (bor := true) (own := [("race", 7)]) (i_any (bor := true) (e_var 5)) (blkOk_by (own := [("race", 7)]) (N := N_Meeting___init__) (sc := defScope s_Meeting___init__) (by decide +kernel)) (by decide) (fun _ _ _ _ _ => (g_nm 7 c_Meeting___init__.nd)) (fun _ _ _ _ _ => ts_nil) (fun _ _ _ _ _ => (e_tup (a_cons (BOk.eo (b_sub (hu_of hr.r) (b_var 7) (EOk.bo e_int))) (a_cons (e_var 7) a_nil))))))))))))))
abbrev N_Reader_class_line : List Str := ["self", "words", "handicap"]
theorem c_Reader_class_line : FnScope N_Reader_class_line ["self", "words"] (defScope s_Reader_class_line) := ⟨rfl, rfl, rfl, by decide +kernel, rfl, by decide +kernel, by decide +kernel⟩
theorem o_Reader_class_line {P : Program} {w : World} {K : PySem.W.Frag} {mg : Str → Option Value} {base : Heap} {f : Addr} {fd : FuncData} (F : Fun K "class_line" "Reader.class_line" s_Reader_class_line f fd) (d_handicap_in : DefOk P w K mg base "handicap_in" 3 ["words"] f_handicap_in) (t_need : TabOk P w K mg base "need" 1 ["self", "is_good"] tab_need) (fl_classes_R : FldOk K mg "classes" cs_classes_R) (t_need_name : TabOk P w K mg base "need_name" 2 ["self", "word", "rows"] tab_need_name) (m_MOST_CLASSES : ∃ t, mg "MOST_CLASSES" = some (.int 6 t)) (m_len : mg "len" = none) :
    FnG P w K mg base 4 f fd ["self", "words"] (spF ⟨K, mg⟩ 2 [0] f_Reader_class_line) := (fn_ok F c_Reader_class_line (by decide) (by
  rintro X W cdv A outer s H E rfl hr tk hp
  exact (ss_cons (s_expr (e_viewL 0 (e_meth t_need hr tk (e_var 0) (a_cons (e_and (e_cmp o_lt (EOk.bo (e_callB c_lenX m_len (by decide +kernel) (ab_cons (b_fld fl_classes_R (b_var 0)) ab_nil))) (EOk.bo (e_globI m_MOST_CLASSES))) (e_one (e_cmp o_gt (EOk.bo (e_callB c_lenX m_len (by decide +kernel) (ab_cons (b_var 1) ab_nil))) (EOk.bo e_int)))) a_nil))))
    (ss_cons (s_expr (e_viewL 0 (e_meth t_need_name hr tk (e_var 0) (a_cons (BOk.eo (b_sub (hu_of hr.r) (b_var 1) (EOk.bo e_int))) (a_cons (BOk.eo (b_fld fl_classes_R (b_var 0))) a_nil)))))
    (ss_cons (s_set 2 (f := true) c_Reader_class_line.nd (e_fn d_handicap_in hr tk (a_cons (e_slice (b_var 1) (p_some (EOk.bo e_int)) p_none) a_nil)))
    (ss_cons (s_expr (e_viewL 0 (e_meth t_need hr tk (e_var 0) (a_cons (e_cmp o_isnot (b_var 2) (EOk.bo e_non)) a_nil))))
    (ss_one (s_mut PySem.F.slot_list_append PySem.F.type_list_append m_append (pl_fld fl_classes_R (pl_var 0)) (a_cons (e_tup (a_cons (BOk.eo (b_sub (hu_of hr.r) (b_var 1) (EOk.bo e_int))) (a_cons (e_var 2) a_nil))) a_nil)))))))))
abbrev N_Reader_race_line : List Str := ["self", "words", "start", "distance"]
theorem c_Reader_race_line : FnScope N_Reader_race_line ["self", "words"] (defScope s_Reader_race_line) := ⟨rfl, rfl, rfl, by decide +kernel, rfl, by decide +kernel, by decide +kernel⟩
theorem o_Reader_race_line {P : Program} {w : World} {K : PySem.W.Frag} {mg : Str → Option Value} {base : Heap} {f : Addr} {fd : FuncData} (F : Fun K "race_line" "Reader.race_line" s_Reader_race_line f fd) (d_number_in : DefOk P w K mg base "number_in" 2 ["word"] f_number_in) (d_time_in : DefOk P w K mg base "time_in" 3 ["word"] f_time_in) (t_need : TabOk P w K mg base "need" 1 ["self", "is_good"] tab_need) (fl_crews_R : FldOk K mg "crews" cs_crews_R) (fl_runs_R : FldOk K mg "runs" cs_runs_R) (t_need_name : TabOk P w K mg base "need_name" 2 ["self", "word", "rows"] tab_need_name) (t_fleets : TabOk P w K mg base "fleets" 1 ["self"] tab_fleets) (m_ALL : ∃ t, mg "ALL" = some (.str "all" t)) (m_MOST_RACES : ∃ t, mg "MOST_RACES" = some (.int 12 t)) (m_len : mg "len" = none) :
    FnG P w K mg base 4 f fd ["self", "words"] (spF ⟨K, mg⟩ 2 [0] f_Reader_race_line) := (fn_ok F c_Reader_race_line (by decide) (by
  rintro X W cdv A outer s H E rfl hr tk hp
  exact (ss_cons (s_expr (e_viewL 0 (e_meth t_need hr tk (e_var 0) (a_cons (e_and (e_cmp (o_ne hr.r) (b_fld fl_crews_R (b_var 0)) (EOk.bo (e_lst a_nil))) (e_and (e_cmp o_lt (EOk.bo (e_callB c_lenX m_len (by decide +kernel) (ab_cons (b_fld fl_runs_R (b_var 0)) ab_nil))) (EOk.bo (e_globI m_MOST_RACES))) (e_one (e_cmp (o_eq hr.r) (EOk.bo (e_callB c_lenX m_len (by decide +kernel) (ab_cons (b_var 1) ab_nil))) (EOk.bo e_int))))) a_nil))))
    (ss_cons (s_expr (e_viewL 0 (e_meth t_need_name hr tk (e_var 0) (a_cons (BOk.eo (b_sub (hu_of hr.r) (b_var 1) (EOk.bo e_int))) (a_cons (BOk.eo (b_fld fl_runs_R (b_var 0))) a_nil)))))
    (ss_cons (s_expr (e_viewL 0 (e_meth t_need hr tk (e_var 0) (a_cons (e_cmp (o_in hr.r) (b_sub (hu_of hr.r) (b_var 1) (EOk.bo e_int)) (EOk.bo (e_op o_add (EOk.bo (e_lst (a_cons (e_globS m_ALL) a_nil))) (EOk.bo (e_meth0 t_fleets hr tk (e_var 0)))))) a_nil))))
    (ss_cons (s_set 2 (f := true) c_Reader_race_line.nd (e_fn d_time_in hr tk (a_cons (BOk.eo (b_sub (hu_of hr.r) (b_var 1) (EOk.bo e_int))) a_nil)))
    (ss_cons (s_set 3 (f := true) c_Reader_race_line.nd (e_fn d_number_in hr tk (a_cons (BOk.eo (b_sub (hu_of hr.r) (b_var 1) (EOk.bo e_int))) a_nil)))
    (ss_cons (s_expr (e_viewL 0 (e_meth t_need hr tk (e_var 0) (a_cons (e_and (e_cmp o_isnot (b_var 2) (EOk.bo e_non)) (e_one (e_cmp o_isnot (b_var 3) (EOk.bo e_non)))) a_nil))))
    (ss_one (s_mut PySem.F.slot_list_append PySem.F.type_list_append m_append (pl_fld fl_runs_R (pl_var 0)) (a_cons (e_tup (a_cons (BOk.eo (b_sub (hu_of hr.r) (b_var 1) (EOk.bo e_int))) (a_cons (BOk.eo (b_sub (hu_of hr.r) (b_var 1) (EOk.bo e_int))) (a_cons (e_var 2) (a_cons (e_var 3) a_nil))))) a_nil)))))))))))
abbrev N_Reader_went : List Str := ["self", "words", "word"]
theorem c_Reader_went : FnScope N_Reader_went ["self", "words"] (defScope s_Reader_went) := ⟨rfl, rfl, rfl, by decide +kernel, rfl, by decide +kernel, by decide +kernel⟩
theorem o_Reader_went {P : Program} {w : World} {K : PySem.W.Frag} {mg : Str → Option Value} {base : Heap} {f : Addr} {fd : FuncData} (F : Fun K "went" "Reader.went" s_Reader_went f fd) (t_need : TabOk P w K mg base "need" 1 ["self", "is_good"] tab_need) (gd_ORDER : GDct K w mg "ORDER" kd_ORDER) (fl_last_R : FldOk K mg "last" cs_last_R) (mm_Reader_class_line : MthOk P w K mg base "Reader" "class_line" 4 ["self", "words"] [0] f_Reader_class_line) (mm_Reader_boat_line : MthOk P w K mg base "Reader" "boat_line" 3 ["self", "words"] [0] f_Reader_boat_line) (mm_Reader_drops_line : MthOk P w K mg base "Reader" "drops_line" 3 ["self", "words"] [0] f_Reader_drops_line) (mm_Reader_race_line : MthOk P w K mg base "Reader" "race_line" 4 ["self", "words"] [0] f_Reader_race_line) :
    FnG P w K mg base 5 f fd ["self", "words"] (spF ⟨K, mg⟩ 2 [0] f_Reader_went) := (fn_ok F c_Reader_went (by decide) (by
  rintro X W cdv A outer s H E rfl hr tk hp
  exact (ss_cons (s_set 2 (f := true) c_Reader_went.nd (BOk.eo (b_sub (hu_of hr.r) (b_var 1) (EOk.bo e_int))))
    (ss_cons (s_expr (e_viewL 0 (e_meth t_need hr tk (e_var 0) (a_cons (e_kdIn gd_ORDER (b_var 2)) a_nil))))
    (ss_cons (s_expr (e_viewL 0 (e_meth t_need hr tk (e_var 0) (a_cons (e_cmp o_ge (EOk.bo (e_kdIx gd_ORDER (b_var 2))) (b_fld fl_last_R (b_var 0))) a_nil))))
    (ss_cons (s_setF true fl_last_R (pl_var 0) (e_kdIx gd_ORDER (b_var 2)))
    (ss_one (s_if (t_cmp (o_eq hr.r) (b_var 2) (EOk.bo e_str)) (ss_one (s_exprC (c_meth mm_Reader_class_line (hr.mono (by decide)) tk (pl_var 0) (a_cons (e_slice (b_var 1) (p_some (EOk.bo e_int)) p_none) a_nil)))) (ss_one (s_if (t_cmp (o_eq hr.r) (b_var 2) (EOk.bo e_str)) (ss_one (s_exprC (c_meth mm_Reader_boat_line (hr.mono (by decide)) tk (pl_var 0) (a_cons (e_slice (b_var 1) (p_some (EOk.bo e_int)) p_none) a_nil)))) (ss_one (s_if (t_cmp (o_eq hr.r) (b_var 2) (EOk.bo e_str)) (ss_one (s_exprC (c_meth mm_Reader_drops_line (hr.mono (by decide)) tk (pl_var 0) (a_cons (e_slice (b_var 1) (p_some (EOk.bo e_int)) p_none) a_nil)))) (ss_one (s_exprC (c_meth mm_Reader_race_line (hr.mono (by decide)) tk (pl_var 0) (a_cons (e_slice (b_var 1) (p_some (EOk.bo e_int)) p_none) a_nil))))))))))))))))
abbrev N_shown : List Str := ["meeting", "lines", "classes", "boats", "drops", "races", "name", "fleet", "start", "distance", "told", "boat", "drop"]
theorem c_shown : FnScope N_shown ["meeting"] (defScope s_shown) := ⟨rfl, rfl, rfl, by decide +kernel, rfl, by decide +kernel, by decide +kernel⟩
theorem o_shown {P : Program} {w : World} {K : PySem.W.Frag} {mg : Str → Option Value} {base : Heap} {f : Addr} {fd : FuncData} (F : Fun K "shown" "shown" s_shown f fd) (g : mg "shown" = some (.ref f)) (d_time_text : DefOk P w K mg base "time_text" 4 ["time"] f_time_text) (d_handicap_of : DefOk P w K mg base "handicap_of" 3 ["plain"] f_handicap_of) (t_plain7 : TabOk P w K mg base "plain" 3 ["self"] tab_plain7) (t_text : TabOk P w K mg base "text" 2 ["self"] tab_text) (m_list : mg "list" = none) (m_str : mg "str" = none) :
    DefOk P w K mg base "shown" 5 ["meeting"] f_shown := DefOk.mk' F g (fn_ok F c_shown List.nodup_nil (by
  rintro X W cdv A outer s H E rfl hr tk hp
  exact (ss_cons (s_asg (f := true) (e_meth0 t_plain7 hr tk (e_var 0)) (g_tup rfl (gs_cons (g_nm 2 c_shown.nd) (gs_cons (g_nm 3 c_shown.nd) (gs_cons (g_nm 4 c_shown.nd) (gs_cons (g_nm 5 c_shown.nd) gs_nil))))))
    (ss_cons (s_setLc 1 (f := false) (bor := true) (own := [("name", 6), ("told", 10)]) rfl c_shown.nd (i_any (bor := true) (e_var 2)) (blkOk_by (own := [("name", 6), ("told", 10)]) (N := N_shown) (sc := defScope s_shown) (by decide +kernel)) (by decide) (fun _ _ _ _ _ => (g_tup rfl (gs_cons (g_nm 6 c_shown.nd) (gs_cons (g_nm 10 c_shown.nd) gs_nil)))) (fun _ _ _ _ _ => ts_nil) (fun _ _ _ _ _ => (e_op o_add (EOk.bo (e_op o_add (EOk.bo (e_op o_add (EOk.bo e_str) (b_var 6))) (EOk.bo e_str))) (EOk.bo (e_meth0 t_text hr.blk takes0 (e_fn d_handicap_of hr.blk takes0 (a_cons (e_var 10) a_nil)))))))
    (ss_cons (s_mut PySem.F.slot_list_extend PySem.F.type_list_extend m_extend (pl_var 1) (a_cons (e_lc rfl c_shown.nd (bor := true) (own := [("boat", 11)]) (i_any (bor := true) (e_var 3)) (blkOk_by (own := [("boat", 11)]) (N := N_shown) (sc := defScope s_shown) (by decide +kernel)) (by decide) (fun _ _ _ _ _ => (g_nm 11 c_shown.nd)) (fun _ _ _ _ _ => ts_nil) (fun _ _ _ _ _ => (e_op o_add (EOk.bo e_str) (EOk.bo (e_join (EOk.bo e_str) (EOk.bo (e_callTy (c_listX rfl) m_list (by decide +kernel) (ab_cons (b_var 11) ab_nil)))))))) a_nil))
    (ss_cons (s_if (t_cmp (o_ne hr.r) (b_var 4) (EOk.bo (e_tup a_nil))) (ss_one (s_mut PySem.F.slot_list_append PySem.F.type_list_append m_append (pl_var 1) (a_cons (e_join (EOk.bo e_str) (EOk.bo (e_op o_add (EOk.bo (e_lst (a_cons e_str a_nil))) (EOk.bo (e_lc rfl c_shown.nd (bor := true) (own := [("drop", 12)]) (i_any (bor := true) (e_var 4)) (blkOk_by (own := [("drop", 12)]) (N := N_shown) (sc := defScope s_shown) (by decide +kernel)) (by decide) (fun _ _ _ _ _ => (g_nm 12 c_shown.nd)) (fun _ _ _ _ _ => ts_nil) (fun _ _ _ _ _ => (e_callTy c_str m_str (by decide +kernel) (ab_cons (b_var 12) ab_nil)))))))) a_nil))) ss_nil)
    (ss_cons (s_for hp rfl (i_any (bor := false) (e_var 5)) (g_tup rfl (gs_cons (g_nm 6 c_shown.nd) (gs_cons (g_nm 7 c_shown.nd) (gs_cons (g_nm 8 c_shown.nd) (gs_cons (g_nm 9 c_shown.nd) gs_nil)))))
    (ss_one (s_mut PySem.F.slot_list_append PySem.F.type_list_append m_append (pl_var 1) (a_cons (e_join (EOk.bo e_str) (EOk.bo (e_lst (a_cons e_str (a_cons (e_var 6) (a_cons (e_var 7) (a_cons (e_fn d_time_text hr tk (a_cons (e_var 8) a_nil)) (a_cons (e_callTy c_str m_str (by decide +kernel) (ab_cons (b_var 9) ab_nil)) a_nil)))))))) a_nil))))
    (ss_one (s_ret (e_join (EOk.bo e_str) (b_var 1))))))))))) fun _ _ _ _ _ _ us hl => match us, hl with | [_], _ => rfl
abbrev N_meeting_of : List Str := ["plain"]
theorem c_meeting_of : FnScope N_meeting_of ["plain"] (defScope s_meeting_of) := ⟨rfl, rfl, rfl, by decide +kernel, rfl, by decide +kernel, by decide +kernel⟩
theorem o_meeting_of {P : Program} {w : World} {K : PySem.W.Frag} {mg : Str → Option Value} {base : Heap} {f : Addr} {fd : FuncData} (F : Fun K "meeting_of" "meeting_of" s_meeting_of f fd) (g : mg "meeting_of" = some (.ref f)) (k_Meeting : MkOk P w K mg base "Meeting" 4 ["self", "plain"] f_Meeting___init__) :
    DefOk P w K mg base "meeting_of" 6 ["plain"] f_meeting_of := DefOk.mk' F g (fn_ok F c_meeting_of List.nodup_nil (by
  rintro X W cdv A outer s H E rfl hr tk hp
  exact (ss_one (s_ret (e_make k_Meeting hr tk (a_cons (e_var 0) a_nil)))))) fun _ _ _ _ _ _ us hl => match us, hl with | [_], _ => rfl
abbrev N_Reader_went_through : List Str := ["self", "text", "lines", "number", "line", "words", "word"]
theorem c_Reader_went_through : FnScope N_Reader_went_through ["self", "text"] (defScope s_Reader_went_through) := ⟨rfl, rfl, rfl, by decide +kernel, rfl, by decide +kernel, by decide +kernel⟩
theorem o_Reader_went_through {P : Program} {w : World} {K : PySem.W.Frag} {mg : Str → Option Value} {base : Heap} {f : Addr} {fd : FuncData} (F : Fun K "went_through" "Reader.went_through" s_Reader_went_through f fd) (fl_row_R : FldOk K mg "row" cs_row_R) (t_need : TabOk P w K mg base "need" 1 ["self", "is_good"] tab_need) (mm_Reader_went : MthOk P w K mg base "Reader" "went" 5 ["self", "words"] [0] f_Reader_went) (fl_crews_R : FldOk K mg "crews" cs_crews_R) (m_enumerate : mg "enumerate" = none) (m_len : mg "len" = none) :
    FnG P w K mg base 6 f fd ["self", "text"] (spF ⟨K, mg⟩ 2 [0] f_Reader_went_through) := (fn_ok F c_Reader_went_through (by decide) (by
  rintro X W cdv A outer s H E rfl hr tk hp
  exact (ss_cons (s_set 2 (f := true) c_Reader_went_through.nd (e_split (b_var 1) (EOk.bo e_str)))
    (ss_cons (s_for hp rfl (i_enum (bor := false) m_enumerate (a_cons (e_var 2) a_nil)) (g_tup rfl (gs_cons (g_nm 3 c_Reader_went_through.nd) (gs_cons (g_nm 4 c_Reader_went_through.nd) gs_nil)))
    (ss_cons (s_setF true fl_row_R (pl_var 0) (e_op o_add (b_var 3) (EOk.bo e_int)))
    (ss_cons (s_expr (e_viewL 0 (e_meth t_need hr tk (e_var 0) (a_cons (e_cmp (o_notin hr.r) (EOk.bo e_str) (b_var 4)) a_nil))))
    (ss_cons (s_setLc 5 (f := true) (bor := true) (own := [("word", 6)]) rfl c_Reader_went_through.nd (i_any (bor := true) (e_split (b_sub (hu_of hr.r) (EOk.bo (e_partition (b_var 4) (EOk.bo e_str))) (EOk.bo e_int)) (EOk.bo e_str))) (blkOk_by (own := [("word", 6)]) (N := N_Reader_went_through) (sc := defScope s_Reader_went_through) (by decide +kernel)) (by decide) (fun _ _ _ _ _ => (g_nm 6 c_Reader_went_through.nd)) (fun _ _ _ _ _ => (ts_one (t_cmp (o_ne hr.r) (b_var 6) (EOk.bo e_str)))) (fun _ _ _ _ _ => (e_var 6)))
    (ss_one (s_if (t_cmp (o_ne hr.r) (b_var 5) (EOk.bo (e_lst a_nil))) (ss_one (s_exprC (c_meth mm_Reader_went (hr.mono (by decide)) tk (pl_var 0) (a_cons (e_var 5) a_nil)))) ss_nil))))))
    (ss_cons (s_setF true fl_row_R (pl_var 0) (e_op o_add (EOk.bo (e_callB c_lenX m_len (by decide +kernel) (ab_cons (b_var 2) ab_nil))) (EOk.bo e_int)))
    (ss_one (s_expr (e_viewL 0 (e_meth t_need hr tk (e_var 0) (a_cons (e_cmp (o_ne hr.r) (b_fld fl_crews_R (b_var 0)) (EOk.bo (e_lst a_nil))) a_nil))))))))))
abbrev N_read : List Str := ["text", "reader"]
theorem c_read : FnScope N_read ["text"] (defScope s_read) := ⟨rfl, rfl, rfl, by decide +kernel, rfl, by decide +kernel, by decide +kernel⟩
theorem o_read {P : Program} {w : World} {K : PySem.W.Frag} {mg : Str → Option Value} {base : Heap} {f : Addr} {fd : FuncData} (F : Fun K "read" "read" s_read f fd) (g : mg "read" = some (.ref f)) (d_meeting_of : DefOk P w K mg base "meeting_of" 6 ["plain"] f_meeting_of) (k_Reader : MkOk P w K mg base "Reader" 1 ["self"] f_Reader___init__) (mm_Reader_went_through : MthOk P w K mg base "Reader" "went_through" 6 ["self", "text"] [0] f_Reader_went_through) (fl_runs_R : FldOk K mg "runs" cs_runs_R) (fl_limits_R : FldOk K mg "limits" cs_limits_R) (fl_crews_R : FldOk K mg "crews" cs_crews_R) (fl_classes_R : FldOk K mg "classes" cs_classes_R) (m_isinstance : mg "isinstance" = none) (m_str : mg "str" = none) (m_tuple : mg "tuple" = none) :
    DefOk P w K mg base "read" 7 ["text"] f_read := DefOk.mk' F g (fn_ok F c_read List.nodup_nil (by
  rintro X W cdv A outer s H E rfl hr tk hp
  exact (ss_cons (s_if (t_not (t_val (e_isTy "str" m_isinstance m_str (by decide +kernel) (b_var 0)))) (ss_one s_wallS) ss_nil)
    (ss_cons (s_set 1 (f := false) c_read.nd (e_make0 k_Reader hr tk))
    (ss_cons (s_exprC (c_meth mm_Reader_went_through (hr.mono (by decide)) tk (pl_var 1) (a_cons (e_var 0) a_nil)))
    (ss_one (s_ret (e_fn d_meeting_of hr tk (a_cons (e_tup (a_cons (e_callTy c_tux m_tuple (by decide +kernel) (ab_cons (b_fld fl_classes_R (b_var 1)) ab_nil)) (a_cons (e_callTy c_tuple m_tuple (by decide +kernel) (ab_cons (b_fld fl_crews_R (b_var 1)) ab_nil)) (a_cons (e_callTy c_tuple m_tuple (by decide +kernel) (ab_cons (b_fld fl_limits_R (b_var 1)) ab_nil)) (a_cons (e_callTy c_tuple m_tuple (by decide +kernel) (ab_cons (b_fld fl_runs_R (b_var 1)) ab_nil)) a_nil))))) a_nil))))))))) fun _ _ _ _ _ _ us hl => match us, hl with | [_], _ => rfl
abbrev N__law_is_read : List Str := ["_law_text", "_law_plain", "_law_whole", "_law_turn", "_law_found"]
theorem c__law_is_read : FnScope N__law_is_read ["_law_text", "_law_plain", "_law_whole"] (defScope s__law_is_read) := ⟨rfl, rfl, rfl, by decide +kernel, rfl, by decide +kernel, by decide +kernel⟩
theorem o__law_is_read {P : Program} {w : World} {K : PySem.W.Frag} {mg : Str → Option Value} {base : Heap} {f : Addr} {fd : FuncData} (F : Fun K "_law_is_read" "_law_is_read" s__law_is_read f fd) (g : mg "_law_is_read" = some (.ref f)) (d_read : DefOk P w K mg base "read" 7 ["text"] f_read) (d_shown : DefOk P w K mg base "shown" 5 ["meeting"] f_shown) (io_Meeting : IsObj K mg "Meeting" iso_Meeting) (t_plain7 : TabOk P w K mg base "plain" 3 ["self"] tab_plain7) (sk : SysK K) (m_isinstance : mg "isinstance" = none) (m_range : mg "range" = none) (m_repr : mg "repr" = none) :
    DefOk P w K mg base "_law_is_read" 8 ["_law_text", "_law_plain", "_law_whole"] f__law_is_read := DefOk.mk' F g (fn_ok F c__law_is_read List.nodup_nil (by
  rintro X W cdv A outer s H E rfl hr tk hp
  exact (ss_cons (s_for hp rfl (i_rng1 (bor := false) m_range (ab_cons (EOk.bo e_int) ab_nil)) (g_nm 3 c__law_is_read.nd)
    (ss_cons (s_set 4 (f := true) c__law_is_read.nd (e_fn d_read hr tk (a_cons (e_var 0) a_nil)))
    (ss_one (s_if (WOk.t (w_or (t_not (t_val (e_isObj io_Meeting m_isinstance (b_var 4)))) (w_or (t_cmp (o_ne hr.r) (EOk.bo (e_callB (c_repr hr sk) m_repr (by decide +kernel) (ab_cons (EOk.bo (e_meth0 t_plain7 hr tk (e_var 4))) ab_nil))) (EOk.bo (e_callB (c_repr hr sk) m_repr (by decide +kernel) (ab_cons (b_tp (b_var 1)) ab_nil)))) (w_or1 (t_cmp (o_ne hr.r) (EOk.bo (e_fn d_shown hr tk (a_cons (e_var 4) a_nil))) (b_var 2)))))) (ss_one (s_ret e_bl)) ss_nil))))
    (ss_one (s_ret e_bl))))) fun _ _ _ _ _ _ us hl => match us, hl with | [_, _, _], _ => rfl
abbrev N_law : List Str := ["_law_script", "_law_plain", "_law_lines_here", "_law_whole", "_law_meeting_here", "_law_turn", "_law_found", "_law_k", "_law_cell"]
theorem c_law : FnScope N_law ["_law_script"] (defScope s_law) := ⟨rfl, rfl, rfl, by decide +kernel, rfl, by decide +kernel, by decide +kernel⟩
theorem o_law {P : Program} {w : World} {K : PySem.W.Frag} {mg : Str → Option Value} {base : Heap} {f : Addr} {fd : FuncData} (F : Fun K "law" "law" s_law f fd) (d_meeting_of : DefOk P w K mg base "meeting_of" 6 ["plain"] f_meeting_of) (d_shown : DefOk P w K mg base "shown" 5 ["meeting"] f_shown) (d__law_mixed : DefOk P w K mg base "_law_mixed" 1 ["_law_cell", "_law_k"] f__law_mixed) (d__law_meeting : DefOk P w K mg base "_law_meeting" 3 ["_law_script", "_law_boats", "_law_races"] f__law_meeting) (d__law_lines : DefOk P w K mg base "_law_lines" 2 ["_law_plain"] f__law_lines) (d__law_strewn : DefOk P w K mg base "_law_strewn" 2 ["_law_cell", "_law_lines_here"] f__law_strewn) (d__law_is_read : DefOk P w K mg base "_law_is_read" 8 ["_law_text", "_law_plain", "_law_whole"] f__law_is_read) (t_plain7 : TabOk P w K mg base "plain" 3 ["self"] tab_plain7) (sk : SysK K) (m_enumerate : mg "enumerate" = none) (m_isinstance : mg "isinstance" = none) (m_list : mg "list" = none) (m_range : mg "range" = none) (m_repr : mg "repr" = none) (m_str : mg "str" = none) :
    FnG P w K mg base 9 f fd ["_law_script"] (spF ⟨K, mg⟩ 1 [] f_law) := (fn_ok F c_law List.nodup_nil (by
  rintro X W cdv A outer s H E rfl hr tk hp
  exact (ss_cons (s_set 1 (f := true) c_law.nd (e_fn d__law_meeting hr tk (a_cons (e_var 0) (a_cons e_int (a_cons e_int a_nil)))))
    (ss_cons (s_set 2 (f := true) c_law.nd (e_fn d__law_lines hr tk (a_cons (e_var 1) a_nil)))
    (ss_cons (s_set 3 (f := true) c_law.nd (e_join (EOk.bo e_str) (b_var 2)))
    (ss_cons (s_set 4 (f := true) c_law.nd (e_fn d_meeting_of hr tk (a_cons (e_var 1) a_nil)))
    (ss_cons (s_for hp rfl (i_rng1 (bor := false) m_range (ab_cons (EOk.bo e_int) ab_nil)) (g_nm 5 c_law.nd)
    (ss_cons (s_set 6 (f := true) c_law.nd (e_fn d_shown hr tk (a_cons (e_var 4) a_nil)))
    (ss_one (s_if (WOk.t (w_or (t_not (t_val (e_isTy "str" m_isinstance m_str (by decide +kernel) (b_var 6)))) (w_or (t_cmp (o_ne hr.r) (b_var 6) (b_var 3)) (w_or1 (t_not (t_val (e_fn d__law_is_read hr tk (a_cons (e_var 6) (a_cons (e_var 1) (a_cons (e_var 3) a_nil)))))))))) (ss_one (s_ret e_bl)) ss_nil))))
    (ss_cons (s_for hp rfl (i_enum (bor := false) m_enumerate (a_cons (e_op o_add (EOk.bo (e_callTy (c_listX rfl) m_list (by decide +kernel) (ab_cons (EOk.bo (e_slice (b_var 0) (p_some (EOk.bo e_int)) (p_some (EOk.bo e_int)))) ab_nil))) (EOk.bo (e_lst (a_cons e_int a_nil)))) a_nil)) (g_tup rfl (gs_cons (g_nm 7 c_law.nd) (gs_cons (g_nm 8 c_law.nd) gs_nil)))
    (ss_one (s_if (t_not (t_val (e_fn d__law_is_read hr tk (a_cons (e_fn d__law_strewn hr tk (a_cons (e_fn d__law_mixed hr tk (a_cons (e_var 8) (a_cons (e_op o_add (EOk.bo e_int) (b_var 7)) a_nil))) (a_cons (e_var 2) a_nil))) (a_cons (e_var 1) (a_cons (e_var 3) a_nil)))))) (ss_one (s_ret e_bl)) ss_nil)))
    (ss_one (s_ret (e_cmp (o_eq hr.r) (EOk.bo (e_callB (c_repr hr sk) m_repr (by decide +kernel) (ab_cons (EOk.bo (e_meth0 t_plain7 hr tk (e_var 4))) ab_nil))) (EOk.bo (e_callB (c_repr hr sk) m_repr (by decide +kernel) (ab_cons (b_tp (b_var 1)) ab_nil))))))))))))))
theorem facts (law_true : ∀ ns : List Int, ns.length ≤ 63 → ∃ os, f_law [.scr ns] = .ok (.bl true) os) {P : Program} {w : World} {K : PySem.W.Frag} {h : Heap} {mg : Str → Option Value} {f : Addr} (X : K.In h) (G : h.Ns mainGlobals mg) (hfa : mg ("law" : Str) = some (.ref f)) (c : SaysLT fa fn ts w K) :
    ∃ (fd : FuncData) (φ : List D → FR), (∀ (s : Shared) (u : Value), BindsTo s fd ⟨[u], []⟩ [("_law_script", u)]) ∧ (∀ ns : List Int, ns.length ≤ 63 → ∃ os, φ [.scr ns] = .ok (.bl true) os) ∧ ∀ base : Heap, K.In base → base.Ns mainGlobals mg → TabsB K mg base → FnG P w K mg base 9 f fd ["_law_script"] (spF ⟨K, mg⟩ 1 [] φ) := by
  have gl := He.glo_ok X G (c.1.fact 0 (f := fB (.glo "law")) rfl)
  have e := hfa.symm.trans gl
  cases e
  obtain ⟨fd_law, F_law⟩ := (c.1.def_ 0 (d := h_law) rfl)
  refine ⟨fd_law, f_law, fun s u => FunD.bindsA (ps := ["_law_script"]) F_law (fun _ _ _ _ _ _ us hl => match us, hl with | [_], _ => rfl) s [u] rfl, law_true, fun base kb _ tabs => ?_⟩
  have fl_bearing : FldOk K mg "bearing" cs_bearing := fld_ok X G (c.1.fact 1 (f := fFld cs_bearing "bearing") rfl)
  obtain ⟨fd_FactorHandicap_init, F_FactorHandicap_init⟩ := (c.1.def_ 1 (d := h_FactorHandicap___init___) rfl)
  have k_FactorHandicap : MkOk P w K mg base "FactorHandicap" 1 ["self", "bearing"] f_Handicap___init__ := mk_ok (x := "__init__") (qual := "Handicap.__init__") (st := s_Handicap___init__) X G (c.1.fact 2 (f := fMk "FactorHandicap") rfl) (fun_of F_FactorHandicap_init) (o_Handicap___init__ (fun_of F_FactorHandicap_init) fl_bearing) (fun _ _ _ _ _ _ us hl => match us, hl with | [_, _], _ => rfl)
  obtain ⟨fd_YardHandicap_init, F_YardHandicap_init⟩ := (c.1.def_ 2 (d := h_YardHandicap___init___) rfl)
  have k_YardHandicap : MkOk P w K mg base "YardHandicap" 1 ["self", "bearing"] f_Handicap___init__ := mk_ok (x := "__init__") (qual := "Handicap.__init__") (st := s_Handicap___init__) X G (c.1.fact 3 (f := fMk "YardHandicap") rfl) (fun_of F_YardHandicap_init) (o_Handicap___init__ (fun_of F_YardHandicap_init) fl_bearing) (fun _ _ _ _ _ _ us hl => match us, hl with | [_, _], _ => rfl)
  obtain ⟨fd_MileHandicap_init, F_MileHandicap_init⟩ := (c.1.def_ 3 (d := h_MileHandicap___init___) rfl)
  have k_MileHandicap : MkOk P w K mg base "MileHandicap" 1 ["self", "bearing"] f_Handicap___init__ := mk_ok (x := "__init__") (qual := "Handicap.__init__") (st := s_Handicap___init__) X G (c.1.fact 4 (f := fMk "MileHandicap") rfl) (fun_of F_MileHandicap_init) (o_Handicap___init__ (fun_of F_MileHandicap_init) fl_bearing) (fun _ _ _ _ _ _ us hl => match us, hl with | [_, _], _ => rfl)
  obtain ⟨fd_LevelHandicap_init, F_LevelHandicap_init⟩ := (c.1.def_ 4 (d := h_LevelHandicap___init___) rfl)
  have k_LevelHandicap : MkOk P w K mg base "LevelHandicap" 1 ["self", "bearing"] f_Handicap___init__ := mk_ok (x := "__init__") (qual := "Handicap.__init__") (st := s_Handicap___init__) X G (c.1.fact 5 (f := fMk "LevelHandicap") rfl) (fun_of F_LevelHandicap_init) (o_Handicap___init__ (fun_of F_LevelHandicap_init) fl_bearing) (fun _ _ _ _ _ _ us hl => match us, hl with | [_, _], _ => rfl)
  obtain ⟨fd_handicap_of, F_handicap_of⟩ := (c.1.def_ 5 (d := h_handicap_of) rfl)
  have d_handicap_of : DefOk P w K mg base "handicap_of" 3 ["plain"] f_handicap_of := o_handicap_of (fun_of F_handicap_of) (He.glo_ok X G (c.1.fact 6 (f := fB (.glo "handicap_of")) rfl)) k_FactorHandicap k_YardHandicap k_MileHandicap k_LevelHandicap
  have fl_kinds : FldOk K mg "kinds" cs_kinds := fld_ok X G (c.1.fact 7 (f := fFld cs_kinds "kinds") rfl)
  have fl_crews : FldOk K mg "crews" cs_crews := fld_ok X G (c.1.fact 8 (f := fFld cs_crews "crews") rfl)
  have fl_limits : FldOk K mg "limits" cs_limits := fld_ok X G (c.1.fact 9 (f := fFld cs_limits "limits") rfl)
  have fl_runs : FldOk K mg "runs" cs_runs := fld_ok X G (c.1.fact 10 (f := fFld cs_runs "runs") rfl)
  have m_dict : mg "dict" = none := He.free_ok X G (c.1.fact 11 (f := fB (.free "dict")) rfl)
  have m_tuple : mg "tuple" = none := He.free_ok X G (c.1.fact 12 (f := fB (.free "tuple")) rfl)
  obtain ⟨fd_Meeting_init, F_Meeting_init⟩ := (c.1.def_ 6 (d := h_Meeting___init___) rfl)
  have k_Meeting : MkOk P w K mg base "Meeting" 4 ["self", "plain"] f_Meeting___init__ := mk_ok (x := "__init__") (qual := "Meeting.__init__") (st := s_Meeting___init__) X G (c.1.fact 13 (f := fMk "Meeting") rfl) (fun_of F_Meeting_init) (o_Meeting___init__ (fun_of F_Meeting_init) d_handicap_of fl_kinds fl_crews fl_limits fl_runs m_dict m_tuple) (fun _ _ _ _ _ _ us hl => match us, hl with | [_, _], _ => rfl)
  obtain ⟨fd_meeting_of, F_meeting_of⟩ := (c.1.def_ 7 (d := h_meeting_of) rfl)
  have d_meeting_of : DefOk P w K mg base "meeting_of" 6 ["plain"] f_meeting_of := o_meeting_of (fun_of F_meeting_of) (He.glo_ok X G (c.1.fact 14 (f := fB (.glo "meeting_of")) rfl)) k_Meeting
  have m_bool : mg "bool" = none := He.free_ok X G (c.1.fact 15 (f := fB (.free "bool")) rfl)
  have m_int : mg "int" = none := He.free_ok X G (c.1.fact 16 (f := fB (.free "int")) rfl)
  have m_isinstance : mg "isinstance" = none := He.free_ok X G (c.1.fact 17 (f := fB (.free "isinstance")) rfl)
  obtain ⟨fd_is_whole, F_is_whole⟩ := (c.1.def_ 8 (d := h_is_whole) rfl)
  have d_is_whole : DefOk P w K mg base "is_whole" 1 ["thing"] f_is_whole := o_is_whole (fun_of F_is_whole) (He.glo_ok X G (c.1.fact 18 (f := fB (.glo "is_whole")) rfl)) m_bool m_int m_isinstance
  have m_LAST : ∃ t, mg "LAST" = some (.int 359999 t) := He.int_ok X G (c.1.fact 19 (f := fB (.int "LAST" 359999)) rfl)
  obtain ⟨fd_is_time, F_is_time⟩ := (c.1.def_ 9 (d := h_is_time) rfl)
  have d_is_time : DefOk P w K mg base "is_time" 2 ["thing"] f_is_time := o_is_time (fun_of F_is_time) (He.glo_ok X G (c.1.fact 20 (f := fB (.glo "is_time")) rfl)) d_is_whole m_LAST
  have xc_BadTime : XcOk K mg "BadTime" := xc_ok X G (c.1.fact 21 (f := fXc "BadTime") rfl)
  obtain ⟨fd_need_time, F_need_time⟩ := (c.1.def_ 10 (d := h_need_time) rfl)
  have d_need_time : DefOk P w K mg base "need_time" 3 ["thing"] f_need_time := o_need_time (fun_of F_need_time) (He.glo_ok X G (c.1.fact 22 (f := fB (.glo "need_time")) rfl)) d_is_time xc_BadTime
  have m_HOUR : ∃ t, mg "HOUR" = some (.int 3600 t) := He.int_ok X G (c.1.fact 23 (f := fB (.int "HOUR" 3600)) rfl)
  have m_MINUTE : ∃ t, mg "MINUTE" = some (.int 60 t) := He.int_ok X G (c.1.fact 24 (f := fB (.int "MINUTE" 60)) rfl)
  have m_divmod : mg "divmod" = none := He.free_ok X G (c.1.fact 25 (f := fB (.free "divmod")) rfl)
  have m_str : mg "str" = none := He.free_ok X G (c.1.fact 26 (f := fB (.free "str")) rfl)
  obtain ⟨fd_time_text, F_time_text⟩ := (c.1.def_ 11 (d := h_time_text) rfl)
  have d_time_text : DefOk P w K mg base "time_text" 4 ["time"] f_time_text := o_time_text (fun_of F_time_text) (He.glo_ok X G (c.1.fact 27 (f := fB (.glo "time_text")) rfl)) d_need_time m_HOUR m_MINUTE m_divmod m_str
  obtain ⟨fd_MileHandicap_word, F_MileHandicap_word⟩ := (c.1.def_ 12 (d := h_MileHandicap_word_) rfl)
  have M_MileHandicap_word : MthOk P w K mg base "MileHandicap" "word" 1 ["self"] [] f_MileHandicap_word := mth_ok (x := "word") (qual := "MileHandicap.word") (st := s_MileHandicap_word) X G (c.1.fact 28 (f := fMth "MileHandicap" "word") rfl) (fun_of F_MileHandicap_word) (o_MileHandicap_word (fun_of F_MileHandicap_word) ) (fun _ _ _ _ _ _ us hl => match us, hl with | [_], _ => rfl)
  obtain ⟨fd_YardHandicap_word, F_YardHandicap_word⟩ := (c.1.def_ 13 (d := h_YardHandicap_word_) rfl)
  have M_YardHandicap_word : MthOk P w K mg base "YardHandicap" "word" 1 ["self"] [] f_YardHandicap_word := mth_ok (x := "word") (qual := "YardHandicap.word") (st := s_YardHandicap_word) X G (c.1.fact 29 (f := fMth "YardHandicap" "word") rfl) (fun_of F_YardHandicap_word) (o_YardHandicap_word (fun_of F_YardHandicap_word) ) (fun _ _ _ _ _ _ us hl => match us, hl with | [_], _ => rfl)
  obtain ⟨fd_FactorHandicap_word, F_FactorHandicap_word⟩ := (c.1.def_ 14 (d := h_FactorHandicap_word_) rfl)
  have M_FactorHandicap_word : MthOk P w K mg base "FactorHandicap" "word" 1 ["self"] [] f_FactorHandicap_word := mth_ok (x := "word") (qual := "FactorHandicap.word") (st := s_FactorHandicap_word) X G (c.1.fact 30 (f := fMth "FactorHandicap" "word") rfl) (fun_of F_FactorHandicap_word) (o_FactorHandicap_word (fun_of F_FactorHandicap_word) ) (fun _ _ _ _ _ _ us hl => match us, hl with | [_], _ => rfl)
  obtain ⟨fd_LevelHandicap_word, F_LevelHandicap_word⟩ := (c.1.def_ 15 (d := h_LevelHandicap_word_) rfl)
  have M_LevelHandicap_word : MthOk P w K mg base "LevelHandicap" "word" 1 ["self"] [] f_Handicap_word := mth_ok (x := "word") (qual := "Handicap.word") (st := s_Handicap_word) X G (c.1.fact 31 (f := fMth "LevelHandicap" "word") rfl) (fun_of F_LevelHandicap_word) (o_Handicap_word (fun_of F_LevelHandicap_word) ) (fun _ _ _ _ _ _ us hl => match us, hl with | [_], _ => rfl)
  have t_word : TabOk P w K mg base "word" 1 ["self"] tab_word := (.cons M_LevelHandicap_word (by decide) (.cons M_FactorHandicap_word (by decide) (.cons M_YardHandicap_word (by decide) (.cons M_MileHandicap_word (by decide) .nil))))
  obtain ⟨fd_MileHandicap_plain, F_MileHandicap_plain⟩ := (c.1.def_ 16 (d := h_MileHandicap_plain_) rfl)
  have M_MileHandicap_plain : MthOk P w K mg base "MileHandicap" "plain" 2 ["self"] [] f_Handicap_plain := mth_ok (x := "plain") (qual := "Handicap.plain") (st := s_Handicap_plain) X G (c.1.fact 32 (f := fMth "MileHandicap" "plain") rfl) (fun_of F_MileHandicap_plain) (o_Handicap_plain (fun_of F_MileHandicap_plain) fl_bearing t_word) (fun _ _ _ _ _ _ us hl => match us, hl with | [_], _ => rfl)
  obtain ⟨fd_YardHandicap_plain, F_YardHandicap_plain⟩ := (c.1.def_ 17 (d := h_YardHandicap_plain_) rfl)
  have M_YardHandicap_plain : MthOk P w K mg base "YardHandicap" "plain" 2 ["self"] [] f_Handicap_plain := mth_ok (x := "plain") (qual := "Handicap.plain") (st := s_Handicap_plain) X G (c.1.fact 33 (f := fMth "YardHandicap" "plain") rfl) (fun_of F_YardHandicap_plain) (o_Handicap_plain (fun_of F_YardHandicap_plain) fl_bearing t_word) (fun _ _ _ _ _ _ us hl => match us, hl with | [_], _ => rfl)
  obtain ⟨fd_FactorHandicap_plain, F_FactorHandicap_plain⟩ := (c.1.def_ 18 (d := h_FactorHandicap_plain_) rfl)
  have M_FactorHandicap_plain : MthOk P w K mg base "FactorHandicap" "plain" 2 ["self"] [] f_Handicap_plain := mth_ok (x := "plain") (qual := "Handicap.plain") (st := s_Handicap_plain) X G (c.1.fact 34 (f := fMth "FactorHandicap" "plain") rfl) (fun_of F_FactorHandicap_plain) (o_Handicap_plain (fun_of F_FactorHandicap_plain) fl_bearing t_word) (fun _ _ _ _ _ _ us hl => match us, hl with | [_], _ => rfl)
  have t_word1 : TabOk P w K mg base "word" 1 ["self"] tab_word1 := (.cons M_LevelHandicap_word (by decide) .nil)
  obtain ⟨fd_LevelHandicap_plain, F_LevelHandicap_plain⟩ := (c.1.def_ 19 (d := h_LevelHandicap_plain_) rfl)
  have M_LevelHandicap_plain : MthOk P w K mg base "LevelHandicap" "plain" 2 ["self"] [] f_LevelHandicap_plain := mth_ok (x := "plain") (qual := "LevelHandicap.plain") (st := s_LevelHandicap_plain) X G (c.1.fact 35 (f := fMth "LevelHandicap" "plain") rfl) (fun_of F_LevelHandicap_plain) (o_LevelHandicap_plain (fun_of F_LevelHandicap_plain) t_word1) (fun _ _ _ _ _ _ us hl => match us, hl with | [_], _ => rfl)
  have t_plain : TabOk P w K mg base "plain" 2 ["self"] tab_plain := (.cons M_LevelHandicap_plain (by decide) (.cons M_FactorHandicap_plain (by decide) (.cons M_YardHandicap_plain (by decide) (.cons M_MileHandicap_plain (by decide) .nil))))
  obtain ⟨fd_Meeting_plain, F_Meeting_plain⟩ := (c.1.def_ 20 (d := h_Meeting_plain_) rfl)
  have M_Meeting_plain : MthOk P w K mg base "Meeting" "plain" 3 ["self"] [] f_Meeting_plain := mth_ok (x := "plain") (qual := "Meeting.plain") (st := s_Meeting_plain) X G (c.1.fact 36 (f := fMth "Meeting" "plain") rfl) (fun_of F_Meeting_plain) (o_Meeting_plain (fun_of F_Meeting_plain) fl_kinds t_plain fl_runs fl_limits fl_crews m_tuple) (fun _ _ _ _ _ _ us hl => match us, hl with | [_], _ => rfl)
  have t_plain7 : TabOk P w K mg base "plain" 3 ["self"] tab_plain7 := (.cons M_LevelHandicap_plain (by decide) (.cons M_FactorHandicap_plain (by decide) (.cons M_YardHandicap_plain (by decide) (.cons M_MileHandicap_plain (by decide) (.cons M_Meeting_plain (by decide) .nil)))))
  obtain ⟨fd_MileHandicap_text, F_MileHandicap_text⟩ := (c.1.def_ 21 (d := h_MileHandicap_text_) rfl)
  have M_MileHandicap_text : MthOk P w K mg base "MileHandicap" "text" 2 ["self"] [] f_Handicap_text := mth_ok (x := "text") (qual := "Handicap.text") (st := s_Handicap_text) X G (c.1.fact 37 (f := fMth "MileHandicap" "text") rfl) (fun_of F_MileHandicap_text) (o_Handicap_text (fun_of F_MileHandicap_text) t_word fl_bearing m_str) (fun _ _ _ _ _ _ us hl => match us, hl with | [_], _ => rfl)
  obtain ⟨fd_YardHandicap_text, F_YardHandicap_text⟩ := (c.1.def_ 22 (d := h_YardHandicap_text_) rfl)
  have M_YardHandicap_text : MthOk P w K mg base "YardHandicap" "text" 2 ["self"] [] f_Handicap_text := mth_ok (x := "text") (qual := "Handicap.text") (st := s_Handicap_text) X G (c.1.fact 38 (f := fMth "YardHandicap" "text") rfl) (fun_of F_YardHandicap_text) (o_Handicap_text (fun_of F_YardHandicap_text) t_word fl_bearing m_str) (fun _ _ _ _ _ _ us hl => match us, hl with | [_], _ => rfl)
  obtain ⟨fd_FactorHandicap_text, F_FactorHandicap_text⟩ := (c.1.def_ 23 (d := h_FactorHandicap_text_) rfl)
  have M_FactorHandicap_text : MthOk P w K mg base "FactorHandicap" "text" 2 ["self"] [] f_Handicap_text := mth_ok (x := "text") (qual := "Handicap.text") (st := s_Handicap_text) X G (c.1.fact 39 (f := fMth "FactorHandicap" "text") rfl) (fun_of F_FactorHandicap_text) (o_Handicap_text (fun_of F_FactorHandicap_text) t_word fl_bearing m_str) (fun _ _ _ _ _ _ us hl => match us, hl with | [_], _ => rfl)
  obtain ⟨fd_LevelHandicap_text, F_LevelHandicap_text⟩ := (c.1.def_ 24 (d := h_LevelHandicap_text_) rfl)
  have M_LevelHandicap_text : MthOk P w K mg base "LevelHandicap" "text" 2 ["self"] [] f_LevelHandicap_text := mth_ok (x := "text") (qual := "LevelHandicap.text") (st := s_LevelHandicap_text) X G (c.1.fact 40 (f := fMth "LevelHandicap" "text") rfl) (fun_of F_LevelHandicap_text) (o_LevelHandicap_text (fun_of F_LevelHandicap_text) t_word1) (fun _ _ _ _ _ _ us hl => match us, hl with | [_], _ => rfl)
  have t_text : TabOk P w K mg base "text" 2 ["self"] tab_text := (.cons M_LevelHandicap_text (by decide) (.cons M_FactorHandicap_text (by decide) (.cons M_YardHandicap_text (by decide) (.cons M_MileHandicap_text (by decide) .nil))))
  have m_list : mg "list" = none := He.free_ok X G (c.1.fact 41 (f := fB (.free "list")) rfl)
  obtain ⟨fd_shown, F_shown⟩ := (c.1.def_ 25 (d := h_shown) rfl)
  have d_shown : DefOk P w K mg base "shown" 5 ["meeting"] f_shown := o_shown (fun_of F_shown) (He.glo_ok X G (c.1.fact 42 (f := fB (.glo "shown")) rfl)) d_time_text d_handicap_of t_plain7 t_text m_list m_str
  obtain ⟨fd__law_mixed, F__law_mixed⟩ := (c.1.def_ 26 (d := h__law_mixed) rfl)
  have d__law_mixed : DefOk P w K mg base "_law_mixed" 1 ["_law_cell", "_law_k"] f__law_mixed := o__law_mixed (fun_of F__law_mixed) (He.glo_ok X G (c.1.fact 43 (f := fB (.glo "_law_mixed")) rfl))
  have m_len : mg "len" = none := He.free_ok X G (c.1.fact 44 (f := fB (.free "len")) rfl)
  obtain ⟨fd__law_cell_at, F__law_cell_at⟩ := (c.1.def_ 27 (d := h__law_cell_at) rfl)
  have d__law_cell_at : DefOk P w K mg base "_law_cell_at" 1 ["_law_script", "_law_k"] f__law_cell_at := o__law_cell_at (fun_of F__law_cell_at) (He.glo_ok X G (c.1.fact 45 (f := fB (.glo "_law_cell_at")) rfl)) m_len
  have m_range : mg "range" = none := He.free_ok X G (c.1.fact 46 (f := fB (.free "range")) rfl)
  obtain ⟨fd__law_names, F__law_names⟩ := (c.1.def_ 28 (d := h__law_names) rfl)
  have d__law_names : DefOk P w K mg base "_law_names" 2 ["_law_cell", "_law_many"] f__law_names := o__law_names (fun_of F__law_names) (He.glo_ok X G (c.1.fact 47 (f := fB (.glo "_law_names")) rfl)) d__law_mixed m_range
  obtain ⟨fd__law_handicap, F__law_handicap⟩ := (c.1.def_ 29 (d := h__law_handicap) rfl)
  have d__law_handicap : DefOk P w K mg base "_law_handicap" 2 ["_law_cell"] f__law_handicap := o__law_handicap (fun_of F__law_handicap) (He.glo_ok X G (c.1.fact 48 (f := fB (.glo "_law_handicap")) rfl)) d__law_mixed
  have m_set : mg "set" = none := He.free_ok X G (c.1.fact 49 (f := fB (.free "set")) rfl)
  have m_sorted : mg "sorted" = none := He.free_ok X G (c.1.fact 50 (f := fB (.free "sorted")) rfl)
  obtain ⟨fd__law_meeting, F__law_meeting⟩ := (c.1.def_ 30 (d := h__law_meeting) rfl)
  have d__law_meeting : DefOk P w K mg base "_law_meeting" 3 ["_law_script", "_law_boats", "_law_races"] f__law_meeting := o__law_meeting (fun_of F__law_meeting) (He.glo_ok X G (c.1.fact 51 (f := fB (.glo "_law_meeting")) rfl)) d__law_cell_at d__law_mixed d__law_names d__law_handicap m_len m_range m_set m_sorted m_tuple
  obtain ⟨fd__law_time_text, F__law_time_text⟩ := (c.1.def_ 31 (d := h__law_time_text) rfl)
  have d__law_time_text : DefOk P w K mg base "_law_time_text" 1 ["_law_time"] f__law_time_text := o__law_time_text (fun_of F__law_time_text) (He.glo_ok X G (c.1.fact 52 (f := fB (.glo "_law_time_text")) rfl)) m_str
  obtain ⟨fd__law_lines, F__law_lines⟩ := (c.1.def_ 32 (d := h__law_lines) rfl)
  have d__law_lines : DefOk P w K mg base "_law_lines" 2 ["_law_plain"] f__law_lines := o__law_lines (fun_of F__law_lines) (He.glo_ok X G (c.1.fact 53 (f := fB (.glo "_law_lines")) rfl)) d__law_time_text m_str
  have m_enumerate : mg "enumerate" = none := He.free_ok X G (c.1.fact 54 (f := fB (.free "enumerate")) rfl)
  obtain ⟨fd__law_strewn, F__law_strewn⟩ := (c.1.def_ 33 (d := h__law_strewn) rfl)
  have d__law_strewn : DefOk P w K mg base "_law_strewn" 2 ["_law_cell", "_law_lines_here"] f__law_strewn := o__law_strewn (fun_of F__law_strewn) (He.glo_ok X G (c.1.fact 55 (f := fB (.glo "_law_strewn")) rfl)) d__law_mixed m_enumerate
  have fl_classes_R : FldOk K mg "classes" cs_classes_R := fld_ok X G (c.1.fact 56 (f := fFld cs_classes_R "classes") rfl)
  have fl_crews_R : FldOk K mg "crews" cs_crews_R := fld_ok X G (c.1.fact 57 (f := fFld cs_crews_R "crews") rfl)
  have fl_limits_R : FldOk K mg "limits" cs_limits_R := fld_ok X G (c.1.fact 58 (f := fFld cs_limits_R "limits") rfl)
  have fl_runs_R : FldOk K mg "runs" cs_runs_R := fld_ok X G (c.1.fact 59 (f := fFld cs_runs_R "runs") rfl)
  have fl_last_R : FldOk K mg "last" cs_last_R := fld_ok X G (c.1.fact 60 (f := fFld cs_last_R "last") rfl)
  have fl_row_R : FldOk K mg "row" cs_row_R := fld_ok X G (c.1.fact 61 (f := fFld cs_row_R "row") rfl)
  obtain ⟨fd_Reader_init, F_Reader_init⟩ := (c.1.def_ 34 (d := h_Reader___init___) rfl)
  have k_Reader : MkOk P w K mg base "Reader" 1 ["self"] f_Reader___init__ := mk_ok (x := "__init__") (qual := "Reader.__init__") (st := s_Reader___init__) X G (c.1.fact 62 (f := fMk "Reader") rfl) (fun_of F_Reader_init) (o_Reader___init__ (fun_of F_Reader_init) fl_classes_R fl_crews_R fl_limits_R fl_runs_R fl_last_R fl_row_R) (fun _ _ _ _ _ _ us hl => match us, hl with | [_], _ => rfl)
  obtain ⟨fd_Reader_need, F_Reader_need⟩ := (c.1.def_ 35 (d := h_Reader_need_) rfl)
  have M_Reader_need : MthOk P w K mg base "Reader" "need" 1 ["self", "is_good"] [] f_Reader_need := mth_ok (x := "need") (qual := "Reader.need") (st := s_Reader_need) X G (c.1.fact 63 (f := fMth "Reader" "need") rfl) (fun_of F_Reader_need) (o_Reader_need (fun_of F_Reader_need) ) (fun _ _ _ _ _ _ us hl => match us, hl with | [_, _], _ => rfl)
  have t_need : TabOk P w K mg base "need" 1 ["self", "is_good"] tab_need := (.cons M_Reader_need (by decide) .nil)
  have gd_ORDER : GDct K w mg "ORDER" kd_ORDER := gdct_ok X G (c.1.fact 64 (f := fDctC "ORDER" [("class", Kv.one (.int 0)), ("boat", Kv.one (.int 1)), ("drops", Kv.one (.int 2)), ("race", Kv.one (.int 3))]) rfl) (c.tab 0 (t := ("ORDER", ["class", "boat", "drops", "race"])) rfl)
  have m_FIGURES : ∃ t, mg "FIGURES" = some (.str "0123456789" t) := He.str_ok X G (c.1.fact 65 (f := fB (.str "FIGURES" "0123456789")) rfl)
  have m_all : mg "all" = none := He.free_ok X G (c.1.fact 66 (f := fB (.free "all")) rfl)
  obtain ⟨fd_are_figures, F_are_figures⟩ := (c.1.def_ 36 (d := h_are_figures) rfl)
  have d_are_figures : DefOk P w K mg base "are_figures" 1 ["text", "least", "most"] f_are_figures := o_are_figures (fun_of F_are_figures) (He.glo_ok X G (c.1.fact 67 (f := fB (.glo "are_figures")) rfl)) m_FIGURES m_all m_len
  have m_MOST_FIGURES : ∃ t, mg "MOST_FIGURES" = some (.int 4 t) := He.int_ok X G (c.1.fact 68 (f := fB (.int "MOST_FIGURES" 4)) rfl)
  obtain ⟨fd_number_in, F_number_in⟩ := (c.1.def_ 37 (d := h_number_in) rfl)
  have d_number_in : DefOk P w K mg base "number_in" 2 ["word"] f_number_in := o_number_in (fun_of F_number_in) (He.glo_ok X G (c.1.fact 69 (f := fB (.glo "number_in")) rfl)) d_are_figures m_MOST_FIGURES m_int
  have gt_NUMBERED : GTup K mg "NUMBERED" [.str "factor", .str "yard", .str "mile"] := gtup_ok X G (c.1.fact 70 (f := fTupC "NUMBERED" [.str "factor", .str "yard", .str "mile"]) rfl)
  have m_MOST_NUMBER : ∃ t, mg "MOST_NUMBER" = some (.int 5000 t) := He.int_ok X G (c.1.fact 71 (f := fB (.int "MOST_NUMBER" 5000)) rfl)
  obtain ⟨fd_handicap_in, F_handicap_in⟩ := (c.1.def_ 38 (d := h_handicap_in) rfl)
  have d_handicap_in : DefOk P w K mg base "handicap_in" 3 ["words"] f_handicap_in := o_handicap_in (fun_of F_handicap_in) (He.glo_ok X G (c.1.fact 72 (f := fB (.glo "handicap_in")) rfl)) d_number_in gt_NUMBERED m_MOST_NUMBER m_len
  have m_ALL : ∃ t, mg "ALL" = some (.str "all" t) := He.str_ok X G (c.1.fact 73 (f := fB (.str "ALL" "all")) rfl)
  have m_MOST_SIGNS : ∃ t, mg "MOST_SIGNS" = some (.int 6 t) := He.int_ok X G (c.1.fact 74 (f := fB (.int "MOST_SIGNS" 6)) rfl)
  have m_SIGNS : ∃ t, mg "SIGNS" = some (.str "abcdefghijklmnopqrstuvwxyz0123456789" t) := He.str_ok X G (c.1.fact 75 (f := fB (.str "SIGNS" "abcdefghijklmnopqrstuvwxyz0123456789")) rfl)
  obtain ⟨fd_is_name, F_is_name⟩ := (c.1.def_ 39 (d := h_is_name) rfl)
  have d_is_name : DefOk P w K mg base "is_name" 1 ["word"] f_is_name := o_is_name (fun_of F_is_name) (He.glo_ok X G (c.1.fact 76 (f := fB (.glo "is_name")) rfl)) m_ALL m_MOST_SIGNS m_SIGNS m_all m_len
  obtain ⟨fd_Reader_need_name, F_Reader_need_name⟩ := (c.1.def_ 40 (d := h_Reader_need_name_) rfl)
  have M_Reader_need_name : MthOk P w K mg base "Reader" "need_name" 2 ["self", "word", "rows"] [] f_Reader_need_name := mth_ok (x := "need_name") (qual := "Reader.need_name") (st := s_Reader_need_name) X G (c.1.fact 77 (f := fMth "Reader" "need_name") rfl) (fun_of F_Reader_need_name) (o_Reader_need_name (fun_of F_Reader_need_name) d_is_name t_need) (fun _ _ _ _ _ _ us hl => match us, hl with | [_, _, _], _ => rfl)
  have t_need_name : TabOk P w K mg base "need_name" 2 ["self", "word", "rows"] tab_need_name := (.cons M_Reader_need_name (by decide) .nil)
  have m_MOST_CLASSES : ∃ t, mg "MOST_CLASSES" = some (.int 6 t) := He.int_ok X G (c.1.fact 78 (f := fB (.int "MOST_CLASSES" 6)) rfl)
  obtain ⟨fd_Reader_class_line, F_Reader_class_line⟩ := (c.1.def_ 41 (d := h_Reader_class_line_) rfl)
  have M_Reader_class_line : MthOk P w K mg base "Reader" "class_line" 4 ["self", "words"] [0] f_Reader_class_line := mth_ok (x := "class_line") (qual := "Reader.class_line") (st := s_Reader_class_line) X G (c.1.fact 79 (f := fMth "Reader" "class_line") rfl) (fun_of F_Reader_class_line) (o_Reader_class_line (fun_of F_Reader_class_line) d_handicap_in t_need fl_classes_R t_need_name m_MOST_CLASSES m_len) (fun _ _ _ _ _ _ us hl => match us, hl with | [_, _], _ => rfl)
  have mm_Reader_class_line : MthOk P w K mg base "Reader" "class_line" 4 ["self", "words"] [0] f_Reader_class_line := M_Reader_class_line
  obtain ⟨fd_Reader_fleets, F_Reader_fleets⟩ := (c.1.def_ 42 (d := h_Reader_fleets_) rfl)
  have M_Reader_fleets : MthOk P w K mg base "Reader" "fleets" 1 ["self"] [] f_Reader_fleets := mth_ok (x := "fleets") (qual := "Reader.fleets") (st := s_Reader_fleets) X G (c.1.fact 80 (f := fMth "Reader" "fleets") rfl) (fun_of F_Reader_fleets) (o_Reader_fleets (fun_of F_Reader_fleets) fl_crews_R m_dict m_list) (fun _ _ _ _ _ _ us hl => match us, hl with | [_], _ => rfl)
  have t_fleets : TabOk P w K mg base "fleets" 1 ["self"] tab_fleets := (.cons M_Reader_fleets (by decide) .nil)
  have m_MOST_BOATS : ∃ t, mg "MOST_BOATS" = some (.int 24 t) := He.int_ok X G (c.1.fact 81 (f := fB (.int "MOST_BOATS" 24)) rfl)
  have m_MOST_FLEETS : ∃ t, mg "MOST_FLEETS" = some (.int 3 t) := He.int_ok X G (c.1.fact 82 (f := fB (.int "MOST_FLEETS" 3)) rfl)
  obtain ⟨fd_Reader_boat_line, F_Reader_boat_line⟩ := (c.1.def_ 43 (d := h_Reader_boat_line_) rfl)
  have M_Reader_boat_line : MthOk P w K mg base "Reader" "boat_line" 3 ["self", "words"] [0] f_Reader_boat_line := mth_ok (x := "boat_line") (qual := "Reader.boat_line") (st := s_Reader_boat_line) X G (c.1.fact 83 (f := fMth "Reader" "boat_line") rfl) (fun_of F_Reader_boat_line) (o_Reader_boat_line (fun_of F_Reader_boat_line) d_is_name t_need fl_crews_R t_need_name fl_classes_R t_fleets m_MOST_BOATS m_MOST_FLEETS m_len) (fun _ _ _ _ _ _ us hl => match us, hl with | [_, _], _ => rfl)
  have mm_Reader_boat_line : MthOk P w K mg base "Reader" "boat_line" 3 ["self", "words"] [0] f_Reader_boat_line := M_Reader_boat_line
  have m_LAST_DROP : ∃ t, mg "LAST_DROP" = some (.int 12 t) := He.int_ok X G (c.1.fact 84 (f := fB (.int "LAST_DROP" 12)) rfl)
  have m_MOST_DROPS : ∃ t, mg "MOST_DROPS" = some (.int 3 t) := He.int_ok X G (c.1.fact 85 (f := fB (.int "MOST_DROPS" 3)) rfl)
  obtain ⟨fd_Reader_drops_line, F_Reader_drops_line⟩ := (c.1.def_ 44 (d := h_Reader_drops_line_) rfl)
  have M_Reader_drops_line : MthOk P w K mg base "Reader" "drops_line" 3 ["self", "words"] [0] f_Reader_drops_line := mth_ok (x := "drops_line") (qual := "Reader.drops_line") (st := s_Reader_drops_line) X G (c.1.fact 86 (f := fMth "Reader" "drops_line") rfl) (fun_of F_Reader_drops_line) (o_Reader_drops_line (fun_of F_Reader_drops_line) d_number_in t_need fl_crews_R fl_limits_R m_LAST_DROP m_MOST_DROPS m_len) (fun _ _ _ _ _ _ us hl => match us, hl with | [_, _], _ => rfl)
  have mm_Reader_drops_line : MthOk P w K mg base "Reader" "drops_line" 3 ["self", "words"] [0] f_Reader_drops_line := M_Reader_drops_line
  obtain ⟨fd_time_read, F_time_read⟩ := (c.1.def_ 45 (d := h_time_read) rfl)
  have d_time_read : DefOk P w K mg base "time_read" 2 ["text"] f_time_read := o_time_read (fun_of F_time_read) (He.glo_ok X G (c.1.fact 87 (f := fB (.glo "time_read")) rfl)) d_are_figures xc_BadTime m_HOUR m_MINUTE m_int m_isinstance m_len m_str
  have s_sub_BadTime : SubOk K mg "BadTime" sub_BadTime := sub_ok X G (c.1.fact 88 (f := fSub "BadTime" sub_BadTime) rfl)
  obtain ⟨fd_time_in, F_time_in⟩ := (c.1.def_ 46 (d := h_time_in) rfl)
  have d_time_in : DefOk P w K mg base "time_in" 3 ["word"] f_time_in := o_time_in (fun_of F_time_in) (He.glo_ok X G (c.1.fact 89 (f := fB (.glo "time_in")) rfl)) d_time_read s_sub_BadTime
  have m_MOST_RACES : ∃ t, mg "MOST_RACES" = some (.int 12 t) := He.int_ok X G (c.1.fact 90 (f := fB (.int "MOST_RACES" 12)) rfl)
  obtain ⟨fd_Reader_race_line, F_Reader_race_line⟩ := (c.1.def_ 47 (d := h_Reader_race_line_) rfl)
  have M_Reader_race_line : MthOk P w K mg base "Reader" "race_line" 4 ["self", "words"] [0] f_Reader_race_line := mth_ok (x := "race_line") (qual := "Reader.race_line") (st := s_Reader_race_line) X G (c.1.fact 91 (f := fMth "Reader" "race_line") rfl) (fun_of F_Reader_race_line) (o_Reader_race_line (fun_of F_Reader_race_line) d_number_in d_time_in t_need fl_crews_R fl_runs_R t_need_name t_fleets m_ALL m_MOST_RACES m_len) (fun _ _ _ _ _ _ us hl => match us, hl with | [_, _], _ => rfl)
  have mm_Reader_race_line : MthOk P w K mg base "Reader" "race_line" 4 ["self", "words"] [0] f_Reader_race_line := M_Reader_race_line
  obtain ⟨fd_Reader_went, F_Reader_went⟩ := (c.1.def_ 48 (d := h_Reader_went_) rfl)
  have M_Reader_went : MthOk P w K mg base "Reader" "went" 5 ["self", "words"] [0] f_Reader_went := mth_ok (x := "went") (qual := "Reader.went") (st := s_Reader_went) X G (c.1.fact 92 (f := fMth "Reader" "went") rfl) (fun_of F_Reader_went) (o_Reader_went (fun_of F_Reader_went) t_need gd_ORDER fl_last_R mm_Reader_class_line mm_Reader_boat_line mm_Reader_drops_line mm_Reader_race_line) (fun _ _ _ _ _ _ us hl => match us, hl with | [_, _], _ => rfl)
  have mm_Reader_went : MthOk P w K mg base "Reader" "went" 5 ["self", "words"] [0] f_Reader_went := M_Reader_went
  obtain ⟨fd_Reader_went_through, F_Reader_went_through⟩ := (c.1.def_ 49 (d := h_Reader_went_through_) rfl)
  have M_Reader_went_through : MthOk P w K mg base "Reader" "went_through" 6 ["self", "text"] [0] f_Reader_went_through := mth_ok (x := "went_through") (qual := "Reader.went_through") (st := s_Reader_went_through) X G (c.1.fact 93 (f := fMth "Reader" "went_through") rfl) (fun_of F_Reader_went_through) (o_Reader_went_through (fun_of F_Reader_went_through) fl_row_R t_need mm_Reader_went fl_crews_R m_enumerate m_len) (fun _ _ _ _ _ _ us hl => match us, hl with | [_, _], _ => rfl)
  have mm_Reader_went_through : MthOk P w K mg base "Reader" "went_through" 6 ["self", "text"] [0] f_Reader_went_through := M_Reader_went_through
  obtain ⟨fd_read, F_read⟩ := (c.1.def_ 50 (d := h_read) rfl)
  have d_read : DefOk P w K mg base "read" 7 ["text"] f_read := o_read (fun_of F_read) (He.glo_ok X G (c.1.fact 94 (f := fB (.glo "read")) rfl)) d_meeting_of k_Reader mm_Reader_went_through fl_runs_R fl_limits_R fl_crews_R fl_classes_R m_isinstance m_str m_tuple
  have io_Meeting : IsObj K mg "Meeting" iso_Meeting := is_ok X G (c.1.fact 95 (f := fIs "Meeting" iso_Meeting) rfl)
  have sk : SysK K := sys_ok (c.1.fact 96 (f := fSys) rfl)
  have m_repr : mg "repr" = none := He.free_ok X G (c.1.fact 97 (f := fB (.free "repr")) rfl)
  obtain ⟨fd__law_is_read, F__law_is_read⟩ := (c.1.def_ 51 (d := h__law_is_read) rfl)
  have d__law_is_read : DefOk P w K mg base "_law_is_read" 8 ["_law_text", "_law_plain", "_law_whole"] f__law_is_read := o__law_is_read (fun_of F__law_is_read) (He.glo_ok X G (c.1.fact 98 (f := fB (.glo "_law_is_read")) rfl)) d_read d_shown io_Meeting t_plain7 sk m_isinstance m_range m_repr
  exact o_law (fun_of F_law) d_meeting_of d_shown d__law_mixed d__law_meeting d__law_lines d__law_strewn d__law_is_read t_plain7 sk m_enumerate m_isinstance m_list m_range m_repr m_str
theorem holds (law_true : ∀ ns : List Int, ns.length ≤ 63 → ∃ os, f_law [.scr ns] = .ok (.bl true) os) : PySem.Challenge.rw_regattaroll_k11_texts_shown_and_read.Holds := by
  w_on; o_law
  refine HandSHeadRun.head_any (r := R) (q := PySem.W.view R.prog [60]) (H := hk) (ob := ob) (M := 30000) (loose := loose) (d := HandSHeadRun.topDef R.prog 60) (kwd := []) ob_eq
    (by kernel_rfl) (fun s => by kernel_rfl) run (by kernel_rfl) (by kernel_rfl) (by kernel_rfl) (by rfl) (by first | assumption | decide +kernel) (by decide +kernel) ⟨rfl, rfl, rfl, rfl, rfl, by decide +kernel⟩ ?hw ?hc
  case hw => w_witness2
  case hc =>
    refine walkG (l := PySem.Challenge.rw_regattaroll_k11_texts_shown_and_read) (n := 63) (k := 9) (x := "_law_script") rfl (by decide) (by kernel_rfl) ⟨rfl, by decide, by decide⟩ ?F
    intro w mg fa h Y G hmg0
    obtain ⟨K, KX, c, TK⟩ := Y
    have hmg : mg ("law" : PySem.Str) = some (.ref fa) := by
      have e : (HandSHeadRun.topDef R.prog 60).name = ("law" : PySem.Str) := by kernel_rfl
      rw [← e]
      exact hmg0
    obtain ⟨fd, φ, hb, hφ, hF⟩ := facts law_true (P := R.prog) (w := w) KX G hmg c
    exact ⟨K, fd, φ, KX, TK, hb, hφ, hF⟩
end Lk11
namespace Lk11
open PySem RL RM RG RR RV
open RT (num ttxt two two_len co co_len fStr_nat)
open TL (tl)
theorem same_mixed : f__law_mixed = RN.f__law_mixed := rfl
theorem same_meeting : f__law_meeting = RM.f__law_meeting := rfl
theorem same_of : f_meeting_of = RG.f_meeting_of := rfl
theorem same_plain : f_Meeting_plain = RG.f_Meeting_plain := rfl
theorem same_hand : f_handicap_of = RH.f_handicap_of := rfl
theorem same_textL : f_LevelHandicap_text = RH.f_LevelHandicap_text := rfl
theorem same_textH : f_Handicap_text = RH.f_Handicap_text := rfl
theorem same_time : f_time_text = RT.f_time_text := rfl
theorem same_lines : f__law_lines = RV.f__law_lines := rfl
theorem same_read : f_read = RR.f_read (fun _ => SRes.bad) (fun _ => SRes.bad) sub_BadTime := rfl
theorem methT {m : Mt} {x : Str} {tab : List (Str × (List D → FR))} {φ : List D → FR} {n : Nat} {o : Bool} {So : RL.Env → Res D} {Ss : RL.Env → Res (List D)} {ρ : RL.Env} {ds : List D} (hx : x ∉ fs4) (t : tabGo tab "Meeting" = some φ) (ho : So ρ = .ok (objO o m)) (ha : Ss ρ = .ok ds) (hn : ds.length + 1 = n) : sMeth x tab n So Ss ρ = (φ (obj m :: frzL ds)).res := by
  have e : (objO o m).frz = obj m := obj_frz
  rw [sMeth_ap, ho, bind_ok]
  simp only [objO] at e
  simp only [objO, hx, not_false_eq_true, if_true, t, ha, bind_ok, hn, frzL_cons, e]
theorem go_plain : tabGo tab_plain7 "Meeting" = some f_Meeting_plain := by
  have n1 : ("Meeting" : Str) ≠ "LevelHandicap" := by decide +kernel
  have n2 : ("Meeting" : Str) ≠ "FactorHandicap" := by decide +kernel
  have n3 : ("Meeting" : Str) ≠ "YardHandicap" := by decide +kernel
  have n4 : ("Meeting" : Str) ≠ "MileHandicap" := by decide +kernel
  simp [tabGo, tab_plain7, n1, n2, n3, n4]
theorem plain_m : ("plain" : Str) ∉ fs4 := by decide +kernel
theorem plain_at {m : Mt} {i : Nat} {ρ : RL.Env} (hc : m.cs.length ≤ 10000) (h : ρ[i]? = some (some (obj m))) : sMeth "plain" tab_plain7 1 (sVar i) sNil ρ = .ok (tD m) := by
  refine (methT (o := false) (ds := []) plain_m go_plain (by rw [sVar_ap h, if_pos obj_clean]) rfl rfl).trans ?_
  rw [same_plain, frzL_nil, plain_eq hc]
  rfl
theorem text_at {h : RH.Hc} (k : HcOk h) {S : RL.Env → Res D} {ρ : RL.Env} (hs : S ρ = .ok (h.obj true)) : sMeth "text" tab_text 1 S sNil ρ = .ok (.str h.text) := by
  have r := RH.meth4 (a := f_LevelHandicap_text) (b := f_Handicap_text) (c := f_Handicap_text) (d := f_Handicap_text) (n := 1) (Ss := sNil) (ds := []) RH.ne_tb hs rfl rfl
  refine r.trans ?_
  have sm : sml h.num = true := by
    rcases k with z | z
    · rw [z]; decide
    · exact (show Bd 40 h.num by unfold Bd; omega).sml (by decide)
  rw [same_textL, same_textH, frzL_nil]
  cases h with
  | level =>
    show (RH.f_LevelHandicap_text [RH.Hc.level.obj false]).res = _
    rw [RH.textL]; rfl
  | factor b =>
    show (RH.f_Handicap_text [RH.Hc.obj false (.factor b)]).res = _
    rw [RH.textH (by simp) sm]; rfl
  | yard b =>
    show (RH.f_Handicap_text [RH.Hc.obj false (.yard b)]).res = _
    rw [RH.textH (by simp) sm]; rfl
  | mile b =>
    show (RH.f_Handicap_text [RH.Hc.obj false (.mile b)]).res = _
    rw [RH.textH (by simp) sm]; rfl
theorem tl_join (ws : List Str) : tl (Txt.join sp ws) = TL.joinL [32] (ws.map tl) := by
  rw [TL.join_eq, TL.tl_join]
  rw [show tl sp = [32] from by decide +kernel]
theorem cls_text {n : Str} {h : RH.Hc} (k : HcOk h) : ("class " : Str) ++ n ++ (" " : Str) ++ h.text = Txt.join sp (clW (n, h)) := by
  have t1 : tl ("class " : Str) = tl ("class" : Str) ++ [32] := by decide +kernel
  have t2 : tl (" " : Str) = [32] := by decide +kernel
  have e : ∀ b : Int, 0 ≤ b → Str.ofString (toString b) = num b.toNat := fun b hb => by
    unfold num
    rw [show ((b.toNat : Nat) : Int) = b by omega]
  apply TL.ext_tl
  rw [tl_join]
  cases h with
  | level => simp [clW, hcW, TL.joinL, TL.tl_append, t1, t2, RH.Hc.text]
  | factor b =>
    have hb : 1 ≤ b ∧ b ≤ 5000 := by rcases k with z | z; cases z; exact z
    have eT : RH.Hc.text (.factor b) = RH.wF ++ Str.ofString " " ++ num b.toNat := by rw [← e b (by omega)]; rfl
    rw [eT]
    simp [clW, hcW, TL.joinL, TL.tl_append, t1, t2]
  | yard b =>
    have hb : 1 ≤ b ∧ b ≤ 5000 := by rcases k with z | z; cases z; exact z
    have eT : RH.Hc.text (.yard b) = RH.wY ++ Str.ofString " " ++ num b.toNat := by rw [← e b (by omega)]; rfl
    rw [eT]
    simp [clW, hcW, TL.joinL, TL.tl_append, t1, t2]
  | mile b =>
    have hb : 1 ≤ b ∧ b ≤ 5000 := by rcases k with z | z; cases z; exact z
    have eT : RH.Hc.text (.mile b) = RH.wM ++ Str.ofString " " ++ num b.toNat := by rw [← e b (by omega)]; rfl
    rw [eT]
    simp [clW, hcW, TL.joinL, TL.tl_append, t1, t2]
theorem bt_text (b : BtT) : ("boat " : Str) ++ Txt.join sp [b.1, b.2.1, b.2.2] = Txt.join sp (btW b) := by
  have t1 : tl ("boat " : Str) = tl ("boat" : Str) ++ [32] := by decide +kernel
  apply TL.ext_tl
  rw [TL.tl_append, tl_join, tl_join]
  simp [btW, TL.joinL, t1]
section
variable {m : Mt} {nb nr : Nat}
abbrev EH (m : Mt) (ln : Option D) (a b c d e f g : Option D) : RL.Env := [some (obj m), ln, some (.tup (m.cs.map clD)), some (.tup (m.bs.map boatD)), some (.tup (m.ds.map .int)), some (.tup (m.rs.map raceD)), a, b, c, d, e, f, g]
theorem lenW {h : RH.Hc} (k : HcOk h) : h.text.length ≤ 100 := by
  have e : ∀ b : Int, 1 ≤ b → b ≤ 5000 → (Str.ofString (toString b)).length ≤ 4 := fun b hb h2 => by
    have := num_len (n := b.toNat) (k := 4) (by decide) (by omega)
    unfold num at this
    rwa [show ((b.toNat : Nat) : Int) = b by omega] at this
  have l1 : RH.wF.length = 6 ∧ RH.wY.length = 4 ∧ RH.wM.length = 4 ∧ RH.wL.length = 5 ∧ (Str.ofString " ").length = 1 := by decide +kernel
  obtain ⟨a1, a2, a3, a4, a5⟩ := l1
  cases h with
  | level => show RH.wL.length ≤ 100; omega
  | factor b =>
    have hb : 1 ≤ b ∧ b ≤ 5000 := by rcases k with z | z; cases z; exact z
    have := e b hb.1 hb.2
    show (RH.wF ++ Str.ofString " " ++ Str.ofString (toString b)).length ≤ 100
    rw [Str.length_append, Str.length_append]; omega
  | yard b =>
    have hb : 1 ≤ b ∧ b ≤ 5000 := by rcases k with z | z; cases z; exact z
    have := e b hb.1 hb.2
    show (RH.wY ++ Str.ofString " " ++ Str.ofString (toString b)).length ≤ 100
    rw [Str.length_append, Str.length_append]; omega
  | mile b =>
    have hb : 1 ≤ b ∧ b ≤ 5000 := by rcases k with z | z; cases z; exact z
    have := e b hb.1 hb.2
    show (RH.wM ++ Str.ofString " " ++ Str.ofString (toString b)).length ≤ 100
    rw [Str.length_append, Str.length_append]; omega
theorem h_cls (g : Good nb nr m) (hnr : nr ≤ 12) : t_shown_2 (EH m none none none none none none none none) = .nx (EH m (some (sL (m.cs.map fun c => Txt.join sp (clW c)))) none none none none none none none) := by
  have c6 := g.c6
  have l1 : l_shown_1 (EH m none none none none none none none none) = .ok (sL (m.cs.map fun c => Txt.join sp (clW c))) := by
    have rr : sL (m.cs.map fun c => Txt.join sp (clW c)) = .lst true (m.cs.map fun c : ClT => D.str (Txt.join sp (clW c))) := by
      show D.lst true _ = _
      rw [List.map_map]
      rfl
    rw [rr]
    refine lc_map (e := clD) (xs := m.cs) (g := fun c : ClT => D.str (Txt.join sp (clW c))) (by omega) (by simp [cleanL_of clD_clean]) fun c hc => ?_
    have k := g.chc c hc
    have ho := RH.of_eq c.2
    rw [← same_hand] at ho
    have nl : c.1.length ≤ 6 := (g.cnm c hc).hi
    have tx := cls_text (n := c.1) k
    have tl' := lenW k
    have z1 : (Str.ofString "class ").length = 6 := by decide +kernel
    have z2 : (Str.ofString " ").length = 1 := by decide +kernel
    have k1 : (Str.ofString "class ").length + c.1.length ≤ sizeLine := by unfold sizeLine; omega
    have k2 : (Str.ofString "class " ++ c.1).length + (Str.ofString " ").length ≤ sizeLine := by rw [Str.length_append]; unfold sizeLine; omega
    have k3 : (Str.ofString "class " ++ c.1 ++ Str.ofString " ").length + c.2.text.length ≤ sizeLine := by rw [Str.length_append, Str.length_append]; unfold sizeLine; omega
    obtain ⟨n, h⟩ := c
    have st : (Tg.tp [.nm 6, .nm 10]).set (clD (n, h)) (wipeE (EH m none none none none none none none none) [6, 10]) = some (EH m none (some (.str n)) none none none (some h.plain) none none) := by
      simp [clD, wipeE]
    have ta : sMeth "text" tab_text 1 (sCallF 1 f_handicap_of (sCons (sVar 10) sNil)) sNil (EH m none (some (.str n)) none none none (some h.plain) none none) = .ok (.str h.text) := text_at k (by simp [ho])
    rw [lcOne, st]
    simp only at tx k1 k2 k3 nl
    simp [ta, opAdd_s k1, opAdd_s k2, opAdd_s k3, -sMeth_ap, -Str.length_append]
    exact tx
  rw [t_shown_2, sAsg_ap, l1, stm_ok]
  rfl
theorem h_bts (g : Good nb nr m) (hnb : nb ≤ 24) (hnr : nr ≤ 12) {xs : List Str} (hx : xs.length ≤ 100) {a b c d e f q : Option D} : t_shown_4 (EH m (some (sL xs)) a b c d e f q) = .nx (EH m (some (sL (xs ++ m.bs.map fun c => Txt.join sp (btW c)))) a b c d e f q) := by
  have bn := g.bn
  have l3 : l_shown_3 (EH m (some (sL xs)) a b c d e f q) = .ok (sL (m.bs.map fun c => Txt.join sp (btW c))) := by
    have rr : sL (m.bs.map fun c => Txt.join sp (btW c)) = .lst true (m.bs.map fun c : BtT => D.str (Txt.join sp (btW c))) := by
      show D.lst true _ = _
      rw [List.map_map]
      rfl
    rw [rr]
    generalize sL xs = A
    refine lc_map (e := boatD) (xs := m.bs) (g := fun c : BtT => D.str (Txt.join sp (btW c))) (by omega) (by simp [cleanL_of boatD_clean]) fun q hq => ?_
    have wd := mtW_wd g hnr (btW q) (by unfold mtW; simp [List.mem_map]; exact .inr (.inl ⟨q.1, q.2.1, q.2.2, hq, rfl⟩))
    have wd3 : ∀ y ∈ [q.1, q.2.1, q.2.2], y.length ≤ 100 := fun y hy => (wd.2.2 y (List.mem_cons_of_mem _ hy)).len
    have j : fJoin sp (.lst true [.str q.1, .str q.2.1, .str q.2.2]) = some (.str (Txt.join sp [q.1, q.2.1, q.2.2])) := join_strs (ys := [q.1, q.2.1, q.2.2]) (joinOk_of (c := 100) (n := 6) wd3 (by simp) (by rw [sp_len]; omega))
    have jl : (Txt.join sp [q.1, q.2.1, q.2.2]).length ≤ 302 := by
      rw [TL.len_tl, tl_join]
      have h1 := wd3 q.1 (by simp)
      have h2 := wd3 q.2.1 (by simp)
      have h3 := wd3 q.2.2 (by simp)
      rw [TL.len_tl] at h1 h2 h3
      simp [TL.joinL]
      simp at h1 h2 h3
      omega
    have bx := bt_text q
    have fl : fListX (boatD q) = some (.lst true [.str q.1, .str q.2.1, .str q.2.2]) := by
      have : 3 ≤ sizeLine := by decide
      simp [fListX, fList, boatD, this]
    have z1 : (Str.ofString "boat ").length = 5 := by decide +kernel
    have k1 : (Str.ofString "boat ").length + (Txt.join sp [q.1, q.2.1, q.2.2]).length ≤ sizeLine := by unfold sizeLine; omega
    generalize boatD q = Q at *
    simp [lcOne, wipeE, fl, j, opAdd_s k1]
    exact bx
  have me : mExtend (sL xs) [sL (m.bs.map fun c => Txt.join sp (btW c))] = some (sL (xs ++ m.bs.map fun c => Txt.join sp (btW c))) := by
    have : xs.length + m.bs.length ≤ sizeLine := by unfold sizeLine; omega
    simp [mExtend, this]
  have il : isLstO (sL xs) = true := rfl
  generalize sL xs = A at *
  generalize sL (m.bs.map fun c => Txt.join sp (btW c)) = B at *
  simp [t_shown_4, il, l3, me]
theorem h_drs (g : Good nb nr m) (hnr : nr ≤ 12) {xs : List Str} (hx : xs.length ≤ 100) {a b c d e f q : Option D} : t_shown_7 (EH m (some (sL xs)) a b c d e f q) = .nx (EH m (some (sL (xs ++ drS m))) a b c d e f q) := by
  have h1 : 1 ≤ sizeLine := by decide
  have z0 : 0 ≤ sizeLine := by decide
  have d3 := g.d3
  have ne : opNe (.tup (m.ds.map .int)) (.tup []) = some (.bl (!decide (m.ds = []))) := by
    have f1 : (D.tup (m.ds.map .int)).fit = true := by
      unfold D.fit
      rw [show (60 : Nat) = 59 + 1 from rfl]
      simp [fitN, List.all_map]
    have f2 : (D.tup []).fit = true := rfl
    have e : PyData.eqv (D.tup (m.ds.map .int)).py (D.tup []).py = decide (m.ds = []) := by
      cases m.ds with
      | nil => simp [D.py, pyL, PyData.eqv, PyData.eqvAll]
      | cons x xs => simp [D.py, pyL, PyData.eqv, PyData.eqvAll]
    simp only [opNe, strs?, f1, f2, and_self, if_true, e]
  by_cases h : m.ds = []
  · rw [decide_eq_true h] at ne
    have eS : drS m = [] := if_pos h
    rw [eS, List.append_nil]
    generalize sL xs = A at *
    simp [t_shown_7, ne, z0]
  · rw [decide_eq_false h] at ne
    have eS : drS m = [Txt.join sp (drW m.ds)] := if_neg h
    have wd := mtW_wd g hnr (drW m.ds) (by unfold mtW; simp [h])
    have j : fJoin sp (sL (drW m.ds)) = some (.str (Txt.join sp (drW m.ds))) := join_wd (o := true) wd.2.2 wd.2.1
    have l5 : l_shown_5 (EH m (some (sL xs)) a b c d e f q) = .ok (.lst true (m.ds.map fun d => .str (num d.toNat))) := by
      generalize sL xs = A at *
      refine lc_map (e := D.int) (xs := m.ds) (g := fun d : Int => D.str (num d.toNat)) (by omega) (by simp) fun q hq => ?_
      have := g.din q hq
      have s := num_str (i := q) (by omega) (by omega)
      simp [lcOne, wipeE, s]
    have ad : opAdd (.lst true [.str "drops"]) (.lst true (m.ds.map fun d => .str (num d.toNat))) = some (sL (drW m.ds)) := by
      rw [opAdd_l (by simp) (clean_of (v := fun d : Int => D.str (num d.toNat)) fun _ _ => rfl) (by simp [sizeLine]; omega)]
      simp [sL, drW]
    have ap : mAppend (sL xs) [.str (Txt.join sp (drW m.ds))] = some (sL (xs ++ [Txt.join sp (drW m.ds)])) := by
      have : xs.length < sizeLine := by unfold sizeLine; omega
      simp [this]
    rw [eS]
    have t : sTest (s2 opNe (sVarB 4) (sTup sNil)) (EH m (some (sL xs)) a b c d e f q) = .ok true := by
      simp [ne, z0]
    have il : isLstO (sL xs) = true := rfl
    rw [t_shown_7, sIfS_ap, t, stm_ok, if_pos rfl]
    generalize D.lst true (m.ds.map fun d => .str (num d.toNat)) = V at *
    generalize sL (drW m.ds) = U at *
    generalize sL (xs ++ [Txt.join sp (drW m.ds)]) = W at *
    generalize sL xs = A at *
    simp [t_shown_6, il, l5, ad, j, ap, h1]
theorem h_rc (g : Good nb nr m) (hnr : nr ≤ 12) {c : RcT} (hc : c ∈ m.rs) {xs : List Str} (hx : xs.length ≤ 100) {e f q : Option D} : t_shown_8 (EH m (some (sL xs)) (some (.str c.1)) (some (.str c.2.1)) (some (.int c.2.2.1)) (some (.int c.2.2.2)) e f q) = .nx (EH m (some (sL (xs ++ [Txt.join sp (rcW c)]))) (some (.str c.1)) (some (.str c.2.1)) (some (.int c.2.2.1)) (some (.int c.2.2.2)) e f q) := by
  have h5 : 5 ≤ sizeLine := by decide
  obtain ⟨k1, k2, k3, k4, k5⟩ := g.rok c hc
  have lt := RT.text_eq (t := c.2.2.1.toNat) (by omega)
  rw [show ((c.2.2.1.toNat : Nat) : Int) = c.2.2.1 by omega, ← same_time] at lt
  have s := num_str k4 k5
  have wd := mtW_wd g hnr (rcW c) (by unfold mtW; simp [List.mem_map]; exact .inr (.inr (.inr ⟨c.1, c.2.1, c.2.2.1, c.2.2.2, hc, rfl⟩)))
  have j : fJoin sp (.lst true [.str "race", .str c.1, .str c.2.1, .str (ttxt c.2.2.1.toNat), .str (num c.2.2.2.toNat)]) = some (.str (Txt.join sp (rcW c))) := join_wd (o := true) wd.2.2 wd.2.1
  have ap : mAppend (sL xs) [.str (Txt.join sp (rcW c))] = some (sL (xs ++ [Txt.join sp (rcW c)])) := by
    have : xs.length < sizeLine := by unfold sizeLine; omega
    simp [this]
  have il : isLstO (sL xs) = true := rfl
  generalize sL (xs ++ [Txt.join sp (rcW c)]) = W at *
  generalize sL xs = A at *
  simp [t_shown_8, il, lt, s, j, ap, h5]
def wholeS (m : Mt) : Str := Txt.join ("\n" : Str) (lineS m)
theorem line_len (g : Good nb nr m) (hnr : nr ≤ 12) : ∀ l ∈ lineS m, l.length ≤ 606 := by
  intro l hl
  unfold lineS at hl
  obtain ⟨ws, hw, rfl⟩ := List.mem_map.mp hl
  obtain ⟨h1, h2, h3⟩ := mtW_wd g hnr ws hw
  rw [TL.len_tl, tl_join]
  have main : ∀ (xs : List (List Nat)), (∀ x ∈ xs, x.length ≤ 100) → (TL.joinL [32] xs).length ≤ 101 * xs.length := by
    intro xs
    induction xs with
    | nil => intro _; simp [TL.joinL]
    | cons x xs ih =>
      intro h
      have hx := h x (by simp)
      cases xs with
      | nil => simp [TL.joinL]; omega
      | cons y ys =>
        have := ih fun z hz => h z (List.mem_cons_of_mem _ hz)
        show (x ++ ([32] ++ TL.joinL [32] (y :: ys))).length ≤ _
        rw [List.length_append, List.length_append, List.length_cons]
        simp only [List.length_cons, List.length_nil] at this ⊢
        omega
  have := main (ws.map tl) (fun x hx => by
    obtain ⟨w, hw', rfl⟩ := List.mem_map.mp hx
    rw [← TL.len_tl]
    exact (h3 w hw').len)
  rw [List.length_map] at this
  omega
theorem lines_few (g : Good nb nr m) (hnb : nb ≤ 24) (hnr : nr ≤ 12) : (lineS m).length ≤ 43 := by
  have c6 := g.c6
  have bn := g.bn
  have rn := g.rn
  have dl : (drS m).length ≤ 1 := by unfold drS; split <;> simp
  rw [lineS_eq]
  simp
  omega
theorem nl_len : ("\n" : Str).length = 1 := by decide +kernel
theorem shown_eq (g : Good nb nr m) (hnb : nb ≤ 24) (hnr : nr ≤ 12) : f_shown [obj m] = .ok (.str (wholeS m)) [] := by
  have c6 := g.c6
  have bn := g.bn
  have rn := g.rn
  have dl : (drS m).length ≤ 1 := by unfold drS; split <;> simp
  have e2 := h_cls g hnr
  have e4 := h_bts g hnb hnr (xs := m.cs.map fun c => Txt.join sp (clW c)) (by simp; omega) (a := none) (b := none) (c := none) (d := none) (e := none) (f := none) (q := none)
  have e7 := h_drs g hnr (xs := (m.cs.map fun c => Txt.join sp (clW c)) ++ m.bs.map fun c => Txt.join sp (btW c)) (by simp; omega) (a := none) (b := none) (c := none) (d := none) (e := none) (f := none) (q := none)
  obtain ⟨X, hX⟩ : ∃ X : List Str, X = (m.cs.map fun c => Txt.join sp (clW c)) ++ (m.bs.map fun c => Txt.join sp (btW c)) ++ drS m := ⟨_, rfl⟩
  have lX : X.length ≤ 31 := by rw [hX]; simp; omega
  have lS := lineS_eq (m := m)
  rw [← hX] at e7 lS
  have pl := plain_at (i := 0) (ρ := [some (obj m), none, none, none, none, none, none, none, none, none, none, none, none]) (m := m) (by omega) rfl
  have e0 : t_shown_0 [some (obj m), none, none, none, none, none, none, none, none, none, none, none, none] = .nx (EH m none none none none none none none none) := by
    have fz : (tD m).frz = tD m := by simp [tD, frzL_of clD_frz, frzL_of boatD_frz, frzL_of raceD_frz]
    rw [t_shown_0, sAsg_ap, pl, stm_ok, if_pos rfl, fz]
    simp [tD]
  obtain ⟨ρ, e9, a, b, c, d, rfl⟩ := for_of (e := raceD) (t := .tp [.nm 6, .nm 7, .nm 8, .nm 9]) (S := t_shown_8) (fun (p : List RcT) ρ => ∃ a b c d, ρ = EH m (some (sL (X ++ p.map fun c => Txt.join sp (rcW c)))) a b c d none none none) (xs := m.rs) (ρ := EH m (some (sL X)) none none none none none none none) ⟨none, none, none, none, by simp⟩ (by
    rintro p x q ρ he ⟨a, b, c, d, rfl⟩
    have hm : x ∈ m.rs := by rw [he]; simp
    have pl : p.length ≤ 12 := by rw [he] at rn; simp at rn; omega
    have st := h_rc g hnr hm (xs := X ++ p.map fun c => Txt.join sp (rcW c)) (by simp; omega) (e := none) (f := none) (q := none)
    refine ⟨_, _, ?_, st, some (.str x.1), some (.str x.2.1), some (.int x.2.2.1), some (.int x.2.2.2), ?_⟩
    · generalize sL (X ++ p.map fun c => Txt.join sp (rcW c)) = A
      simp [raceD]
    · simp [List.append_assoc])
  have e9' : t_shown_9 (EH m (some (sL X)) none none none none none none none) = .nx (EH m (some (sL (lineS m))) a b c d none none none) := by
    have it : (sIter (sVar 5)) (EH m (some (sL X)) none none none none none none none) = .ok (m.rs.map raceD) := by
      generalize sL X = A
      simp [cleanL_of raceD_clean]
    rw [t_shown_9, sFor_ap, it, stm_ok, e9, lS]
  have j : fJoin ("\n" : Str) (sL (lineS m)) = some (.str (wholeS m)) := join_strs (joinOk_of (c := 606) (n := 43) (line_len g hnr) (lines_few g hnb hnr) (by rw [nl_len]; omega))
  have e10 : t_shown_10 (EH m (some (sL (lineS m))) a b c d none none none) = .rt (.str (wholeS m)) (EH m (some (sL (lineS m))) a b c d none none none) := by
    generalize sL (lineS m) = A at *
    simp [t_shown_10, j]
  rw [f_shown, runDef_ap, show entry 13 [obj m] = [some (obj m), none, none, none, none, none, none, none, none, none, none, none, none] from rfl]
  unfold b_shown
  rw [sThen_ap, e0, andThen_nx, sThen_ap, e2, andThen_nx, sThen_ap, e4, andThen_nx, sThen_ap, e7, andThen_nx, sThen_ap, e9', andThen_nx, e10]
  rfl
end
end Lk11
namespace Lk11
open PySem RL RM RG RR RV
open TL (tl)
structure LG (l : Str) (ws : List Str) : Prop where
  ok : LineOk l
  wd : RR.wordsOf l = ws
  fr : 9 ∉ tl l ∧ 10 ∉ tl l
  len : l.length ≤ 700
theorem joinL_len {S : List Nat} : ∀ {ws : List (List Nat)} {c : Nat}, (∀ x ∈ ws, x.length ≤ c) → (TL.joinL S ws).length ≤ (c + S.length) * ws.length
  | [], c, _ => by simp [TL.joinL]
  | [x], c, h => by
    have := h x (by simp)
    show x.length ≤ _
    simp
    omega
  | x :: y :: ws, c, h => by
    have h1 := h x (by simp)
    have h2 := joinL_len (S := S) (ws := y :: ws) (c := c) fun z hz => h z (List.mem_cons_of_mem _ hz)
    show (x ++ (S ++ TL.joinL S (y :: ws))).length ≤ _
    rw [List.length_append, List.length_append, List.length_cons, Nat.mul_add]
    omega
theorem body_len {n g k : Nat} {ws : List Str} (hn : n ≤ 3) (hg : g ≤ 3) (hk : k ≤ 3) (wd : ∀ w ∈ ws, Wd w) (h6 : ws.length ≤ 6) : (bodyL n g ws k).length ≤ 650 := by
  unfold bodyL
  rw [List.length_append, List.length_append, List.length_replicate, List.length_replicate]
  have := joinL_len (S := List.replicate (g + 1) 32) (ws := ws.map tl) (c := 100) (fun x hx => by
    obtain ⟨w, hw, rfl⟩ := List.mem_map.mp hx
    rw [← TL.len_tl]
    exact (wd w hw).len)
  rw [List.length_replicate, List.length_map] at this
  have h2 : (100 + (g + 1)) * ws.length ≤ 104 * 6 := Nat.mul_le_mul (by omega) h6
  omega
theorem lg_plain {l : Str} {n g k : Nat} {ws : List Str} (hn : n ≤ 3) (hg : g ≤ 3) (hk : k ≤ 3) (wd : ∀ w ∈ ws, Wd w) (h6 : ws.length ≤ 6) (e : tl l = bodyL n g ws k) : LG l ws := by
  obtain ⟨p, w, f⟩ := plain_line wd e
  have := body_len hn hg hk wd h6
  have ll : l.length ≤ 650 := by rw [TL.len_tl, e]; exact this
  exact ⟨line_ok p (by omega) (by omega) w wd (by omega), w, f, by omega⟩
theorem lg_remark {a b : Str} {n g k : Nat} {ws : List Str} (hn : n ≤ 3) (hg : g ≤ 3) (hk : k ≤ 3) (wd : ∀ w ∈ ws, Wd w) (h6 : ws.length ≤ 6) (e : tl a = bodyL n g ws k) (hb : 9 ∉ tl b ∧ 10 ∉ tl b) (lb : b.length ≤ 40) : LG (a ++ ("#" : Str) ++ b) ws := by
  obtain ⟨p, w, f⟩ := remark_line wd e hb
  have := body_len hn hg hk wd h6
  have la : a.length ≤ 650 := by rw [TL.len_tl, e]; exact this
  have l1 : ("#" : Str).length = 1 := by decide +kernel
  have ll : (a ++ ("#" : Str) ++ b).length ≤ 700 := by rw [Str.length_append, Str.length_append]; omega
  exact ⟨line_ok p (by omega) (by omega) w wd (by omega), w, f, ll⟩
abbrev voids : List Str := ["", "   ", "# race a all 0:00:00 0", " #", "#drops 1"]
theorem void_lg {l : Str} (h : l ∈ voids ∨ l = ("# 5" : Str)) : LG l [] := by
  have nw : ∀ w ∈ ([] : List Str), Wd w := fun w h => by simp at h
  have hs : ("#" : Str) = ("#" : Str) := rfl
  have b1 : 9 ∉ tl (" race a all 0:00:00 0" : Str) ∧ 10 ∉ tl (" race a all 0:00:00 0" : Str) := by decide +kernel
  have b2 : 9 ∉ tl ("" : Str) ∧ 10 ∉ tl ("" : Str) := by decide +kernel
  have b3 : 9 ∉ tl ("drops 1" : Str) ∧ 10 ∉ tl ("drops 1" : Str) := by decide +kernel
  have b4 : 9 ∉ tl (" 5" : Str) ∧ 10 ∉ tl (" 5" : Str) := by decide +kernel
  rcases h with h | rfl
  · simp only [voids, List.mem_cons, List.not_mem_nil, or_false] at h
    rcases h with rfl | rfl | rfl | rfl | rfl
    · exact lg_plain (n := 0) (g := 0) (k := 0) (by decide) (by decide) (by decide) nw (by simp) (by decide +kernel)
    · exact lg_plain (n := 3) (g := 0) (k := 0) (by decide) (by decide) (by decide) nw (by simp) (by decide +kernel)
    · have := lg_remark (a := "") (b := " race a all 0:00:00 0") (n := 0) (g := 0) (k := 0) (by decide) (by decide) (by decide) nw (by simp) (by decide +kernel) b1 (by decide +kernel)
      have e : ("" : Str) ++ ("#" : Str) ++ (" race a all 0:00:00 0" : Str) = ("# race a all 0:00:00 0" : Str) := by decide +kernel
      rwa [e] at this
    · have := lg_remark (a := " ") (b := "") (n := 1) (g := 0) (k := 0) (by decide) (by decide) (by decide) nw (by simp) (by decide +kernel) b2 (by decide +kernel)
      have e : (" " : Str) ++ ("#" : Str) ++ ("" : Str) = (" #" : Str) := by decide +kernel
      rwa [e] at this
    · have := lg_remark (a := "") (b := "drops 1") (n := 0) (g := 0) (k := 0) (by decide) (by decide) (by decide) nw (by simp) (by decide +kernel) b3 (by decide +kernel)
      have e : ("" : Str) ++ ("#" : Str) ++ ("drops 1" : Str) = ("#drops 1" : Str) := by decide +kernel
      rwa [e] at this
  · have := lg_remark (a := "") (b := " 5") (n := 0) (g := 0) (k := 0) (by decide) (by decide) (by decide) nw (by simp) (by decide +kernel) b4 (by decide +kernel)
    have e : ("" : Str) ++ ("#" : Str) ++ (" 5" : Str) = ("# 5" : Str) := by decide +kernel
    rwa [e] at this
abbrev gaps : List Str := [" ", "  ", "    "]
abbrev tails : List Str := ["", " ", "#", " # class a level", "  #boat"]
theorem gap_tl {s : Str} (h : s ∈ gaps) : ∃ g, g ≤ 3 ∧ tl s = List.replicate (g + 1) 32 ∧ s.length ≤ 4 := by
  simp only [gaps, List.mem_cons, List.not_mem_nil, or_false] at h
  rcases h with rfl | rfl | rfl
  · exact ⟨0, by decide, by decide +kernel, by decide +kernel⟩
  · exact ⟨1, by decide, by decide +kernel, by decide +kernel⟩
  · exact ⟨3, by decide, by decide +kernel, by decide +kernel⟩
theorem rep_tl (n : Nat) : tl (repS " " n) = List.replicate n 32 := by
  have : tl (" " : Str) = [32] := by decide +kernel
  show (List.replicate n (tl (" " : Str))).flatten = _
  rw [this]
  induction n with
  | zero => rfl
  | succ n ih => rw [List.replicate_succ, List.flatten_cons, ih]; rfl
theorem made_lg {n : Nat} {s t : Str} {ws : List Str} (hn : n ≤ 3) (hs : s ∈ gaps) (ht : t ∈ tails) (wd : ∀ w ∈ ws, Wd w) (h6 : ws.length ≤ 6) : LG (repS " " n ++ Txt.join s ws ++ t) ws := by
  obtain ⟨g, hg, gt, _⟩ := gap_tl hs
  have tj : tl (Txt.join s ws) = TL.joinL (List.replicate (g + 1) 32) (ws.map tl) := by rw [TL.join_eq, TL.tl_join, gt]
  have b : ∀ k (c : Str), tl c = List.replicate k 32 → tl (repS " " n ++ Txt.join s ws ++ c) = bodyL n g ws k := fun k c hc => by
    rw [TL.tl_append, TL.tl_append, rep_tl, tj, hc, bodyL, List.append_assoc]
  have b1 : 9 ∉ tl ("" : Str) ∧ 10 ∉ tl ("" : Str) := by decide +kernel
  have b2 : 9 ∉ tl (" class a level" : Str) ∧ 10 ∉ tl (" class a level" : Str) := by decide +kernel
  have b3 : 9 ∉ tl ("boat" : Str) ∧ 10 ∉ tl ("boat" : Str) := by decide +kernel
  simp only [tails, List.mem_cons, List.not_mem_nil, or_false] at ht
  rcases ht with rfl | rfl | rfl | rfl | rfl
  · exact lg_plain hn hg (k := 0) (by decide) wd h6 (b 0 "" (by decide +kernel))
  · exact lg_plain hn hg (k := 1) (by decide) wd h6 (b 1 " " (by decide +kernel))
  · have := lg_remark (a := repS " " n ++ Txt.join s ws ++ "") (b := "") hn hg (k := 0) (by decide) wd h6 (b 0 "" (by decide +kernel)) b1 (by decide +kernel)
    have e : (repS " " n ++ Txt.join s ws ++ ("" : Str)) ++ ("#" : Str) ++ ("" : Str) = repS " " n ++ Txt.join s ws ++ ("#" : Str) := by
      apply TL.ext_tl
      have : tl ("" : Str) = [] := by decide +kernel
      simp only [TL.tl_append, this, List.append_nil]
    rwa [e] at this
  · have := lg_remark (a := repS " " n ++ Txt.join s ws ++ " ") (b := " class a level") hn hg (k := 1) (by decide) wd h6 (b 1 " " (by decide +kernel)) b2 (by decide +kernel)
    have e : (repS " " n ++ Txt.join s ws ++ (" " : Str)) ++ ("#" : Str) ++ (" class a level" : Str) = repS " " n ++ Txt.join s ws ++ (" # class a level" : Str) := by
      apply TL.ext_tl
      have : tl (" # class a level" : Str) = tl (" " : Str) ++ tl ("#" : Str) ++ tl (" class a level" : Str) := by decide +kernel
      simp only [TL.tl_append, this, List.append_assoc]
    rwa [e] at this
  · have := lg_remark (a := repS " " n ++ Txt.join s ws ++ "  ") (b := "boat") hn hg (k := 2) (by decide) wd h6 (b 2 "  " (by decide +kernel)) b3 (by decide +kernel)
    have e : (repS " " n ++ Txt.join s ws ++ ("  " : Str)) ++ ("#" : Str) ++ ("boat" : Str) = repS " " n ++ Txt.join s ws ++ ("  #boat" : Str) := by
      apply TL.ext_tl
      have : tl ("  #boat" : Str) = tl ("  " : Str) ++ tl ("#" : Str) ++ tl ("boat" : Str) := by decide +kernel
      simp only [TL.tl_append, this, List.append_assoc]
    rwa [e] at this
structure Ls (F : List Str) (ps : List (List Str)) : Prop where
  all : ∀ l ∈ F, ∃ ws, LG l ws
  wds : ((F.map RR.wordsOf).filter fun w => decide (w ≠ [])) = ps
  few : F.length ≤ 2 * ps.length + 2
theorem Ls.void {F : List Str} {ps : List (List Str)} (h : Ls F ps) {l : Str} (hl : LG l []) (hf : F.length + 1 ≤ 2 * ps.length + 2) : Ls (F ++ [l]) ps := by
  refine ⟨fun x hx => ?_, ?_, by simp; omega⟩
  · rcases List.mem_append.mp hx with z | z
    · exact h.all x z
    · rw [List.mem_singleton.mp z]; exact ⟨_, hl⟩
  · rw [List.map_append, List.filter_append, h.wds]
    simp [hl.wd]
theorem Ls.line {F : List Str} {ps : List (List Str)} (h : Ls F ps) {l : Str} {ws : List Str} (hl : LG l ws) (hw : ws ≠ []) (hf : F.length + 1 ≤ 2 * (ps.length + 1) + 2) : Ls (F ++ [l]) (ps ++ [ws]) := by
  refine ⟨fun x hx => ?_, ?_, by simp; omega⟩
  · rcases List.mem_append.mp hx with z | z
    · exact h.all x z
    · rw [List.mem_singleton.mp z]; exact ⟨_, hl⟩
  · rw [List.map_append, List.filter_append, h.wds]
    simp [hl.wd, hw]
abbrev ES (c : Int) (L : List Str) (F : List Str) (k l w g t : Option D) : RL.Env := [some (.int c), some (.lst false (L.map .str)), some (sL F), k, l, w, g, t]
theorem strew_step {c : Int} {L F : List Str} {ps : List (List Str)} {k : Nat} {ws : List Str} {w g t : Option D} (hk : k ≤ 1000) (hF : Ls F ps) (h0 : F.length ≤ 2 * ps.length) (hl : F.length ≤ 1000) (wd : ∀ w ∈ ws, Wd w) (h6 : ws.length ≤ 6) (hne : ws ≠ []) :
    ∃ F' w' g' t', k__law_strewn_7 (ES c L F (some (.int (k : Int))) (some (.str (Txt.join sp ws))) w g t) = .nx (ES c L F' (some (.int (k : Int))) (some (.str (Txt.join sp ws))) w' g' t') ∧ Ls F' (ps ++ [ws]) ∧ F'.length ≤ 2 * (ps ++ [ws]).length := by
  have h3 : 3 ≤ sizeLine := by decide
  have h5 : 5 ≤ sizeLine := by decide
  obtain ⟨v, mv⟩ : ∃ v : Int, f__law_mixed [.int c, .int (400 + (k : Int))] = .ok (.int v) [] := ⟨_, by rw [same_mixed]; exact RN.mix_eq (by omega)⟩
  obtain ⟨L', hL'⟩ : ∃ X : D, X = .lst false (L.map .str) := ⟨_, rfl⟩
  have e1 : ∀ F : List Str, t__law_strewn_1 (ES c L F (some (.int (k : Int))) (some (.str (Txt.join sp ws))) w g t) = .nx (ES c L F (some (.int (k : Int))) (some (.str (Txt.join sp ws))) (some (.int v)) g t) := by
    intro F
    generalize sL F = A
    generalize D.str (Txt.join sp ws) = B
    simp [t__law_strewn_1, mv]
  have e3 : ∃ F1, t__law_strewn_3 (ES c L F (some (.int (k : Int))) (some (.str (Txt.join sp ws))) (some (.int v)) g t) = .nx (ES c L F1 (some (.int (k : Int))) (some (.str (Txt.join sp ws))) (some (.int v)) g t) ∧ Ls F1 ps ∧ F1.length ≤ 2 * ps.length + 1 ∧ F1.length ≤ 1001 := by
    have q5 := mod_pos' (i := v) (j := 5) (by decide)
    by_cases hv : v % 5 = 1
    · have qd := fdiv_pos' (i := v) (j := 5) (by decide) (by decide)
      have qm := mod_pos' (i := v / 5) (j := 5) (by decide)
      have bm := RN.mod_in (v / 5) (b := 5) (by decide)
      obtain ⟨d, d1, d2⟩ := ix_mem (xs := voids.map D.str) bm.1 bm.2
      obtain ⟨u, u1, rfl⟩ := List.mem_map.mp d2
      generalize v / 5 % 5 = j at *
      have ix : opIx (.lst true [.str "", .str "   ", .str "# race a all 0:00:00 0", .str " #", .str "#drops 1"]) (.int j) = some (.str u) := d1
      have ap : mAppend (sL F) [.str u] = some (sL (F ++ [u])) := by
        have : F.length < sizeLine := by unfold sizeLine; omega
        simp [this]
      have il : isLstO (sL F) = true := rfl
      refine ⟨F ++ [u], ?_, hF.void (void_lg (.inl u1)) (by omega), by simp; omega, by simp; omega⟩
      have tt : sTest (s2 opEq (s2 opMod (sVarB 5) (sC (.int 5))) (sC (.int 1))) (ES c L F (some (.int (k : Int))) (some (.str (Txt.join sp ws))) (some (.int v)) g t) = .ok true := by simp [q5, hv]
      rw [t__law_strewn_3, sIfS_ap, tt, stm_ok, if_pos rfl]
      simp [t__law_strewn_2, il, qd, qm, ix, ap, h5, -opIx_l, -mAppend_l, -List.map_append]
    · refine ⟨F, ?_, hF, by omega, by omega⟩
      have tt : sTest (s2 opEq (s2 opMod (sVarB 5) (sC (.int 5))) (sC (.int 1))) (ES c L F (some (.int (k : Int))) (some (.str (Txt.join sp ws))) (some (.int v)) g t) = .ok false := by simp [q5, hv]
      rw [t__law_strewn_3, sIfS_ap, tt, stm_ok, if_neg (by simp)]
      rfl
  obtain ⟨F1, e3, F1s, F1l, F1m⟩ := e3
  have g25 := fdiv_pos' (i := v) (j := 25) (by decide) (by decide)
  have g3 := mod_pos' (i := v / 25) (j := 3) (by decide)
  have gb := RN.mod_in (v / 25) (b := 3) (by decide)
  obtain ⟨dg, dg1, dg2⟩ := ix_mem (xs := gaps.map D.str) gb.1 gb.2
  obtain ⟨gs, gs1, rfl⟩ := List.mem_map.mp dg2
  have t75 := fdiv_pos' (i := v) (j := 75) (by decide) (by decide)
  have t5 := mod_pos' (i := v / 75) (j := 5) (by decide)
  have tb := RN.mod_in (v / 75) (b := 5) (by decide)
  obtain ⟨dt, dt1, dt2⟩ := ix_mem (xs := tails.map D.str) tb.1 tb.2
  obtain ⟨ts, ts1, rfl⟩ := List.mem_map.mp dt2
  have n375 := fdiv_pos' (i := v) (j := 375) (by decide) (by decide)
  obtain ⟨n, nl, n4⟩ := modN (v / 375) (b := 4) (by decide)
  generalize v / 25 % 3 = jg at *
  generalize v / 75 % 5 = jt at *
  generalize v / 25 = v25 at *
  generalize v / 75 = v75 at *
  generalize v / 375 = v375 at *
  have ixg : opIx (.lst true [.str " ", .str "  ", .str "    "]) (.int jg) = some (.str gs) := dg1
  have ixt : opIx (.lst true [.str "", .str " ", .str "#", .str " # class a level", .str "  #boat"]) (.int jt) = some (.str ts) := dt1
  have e4 : t__law_strewn_4 (ES c L F1 (some (.int (k : Int))) (some (.str (Txt.join sp ws))) (some (.int v)) g t) = .nx (ES c L F1 (some (.int (k : Int))) (some (.str (Txt.join sp ws))) (some (.int v)) (some (.str gs)) t) := by
    generalize sL F1 = A at *
    generalize D.str (Txt.join sp ws) = B at *
    simp [t__law_strewn_4, g25, g3, ixg, h3, -opIx_l]
  have e5 : t__law_strewn_5 (ES c L F1 (some (.int (k : Int))) (some (.str (Txt.join sp ws))) (some (.int v)) (some (.str gs)) t) = .nx (ES c L F1 (some (.int (k : Int))) (some (.str (Txt.join sp ws))) (some (.int v)) (some (.str gs)) (some (.str ts))) := by
    generalize sL F1 = A at *
    generalize D.str (Txt.join sp ws) = B at *
    simp [t__law_strewn_5, t75, t5, ixt, h5, -opIx_l]
  have lg := made_lg (n := n) (by omega) gs1 ts1 wd h6
  obtain ⟨gg, gg1, gg2, gg3⟩ := gap_tl gs1
  have sm : opMulA (.str " ") (.int (n : Int)) = some (.str (repS " " n)) := by
    have l1 : (Str.ofString " ").length = 1 := by decide +kernel
    simp only [opMulA]
    rw [if_pos ⟨by omega, by omega, by omega⟩]
    rfl
  have spl : Txt.split (Txt.join sp ws) (" " : Str) = ws := TL.split_join (s := 32) (S := []) (by decide +kernel) (by decide +kernel) hne fun p hp z => ((wd p hp).ok 32 z).1 rfl
  have ll := lg.len
  rw [Str.length_append, Str.length_append] at ll
  have jl : (Txt.join sp ws).length ≤ 700 := by
    rw [TL.len_tl, tl_join]
    have := joinL_len (S := [32]) (ws := ws.map tl) (c := 100) (fun x hx => by
      obtain ⟨w, hw, rfl⟩ := List.mem_map.mp hx
      rw [← TL.len_tl]
      exact (wd w hw).len)
    rw [List.length_map] at this
    simp at this
    omega
  have fs : fSplit (Txt.join sp ws) (.str " ") = some (.lst true (ws.map .str)) := by
    have l1 : (Str.ofString " ").length = 1 := by decide +kernel
    rw [fSplit, if_pos ⟨by omega, by unfold sizeLine; omega⟩, spl]
  have fj : fJoin gs (.lst true (ws.map .str)) = some (.str (Txt.join gs ws)) := join_strs (joinOk_of (c := 100) (n := 6) (fun y hy => (wd y hy).len) h6 (by omega))
  have k1 : (repS " " n).length + (Txt.join gs ws).length ≤ sizeLine := by unfold sizeLine; omega
  have k2 : (repS " " n ++ Txt.join gs ws).length + ts.length ≤ sizeLine := by rw [Str.length_append]; unfold sizeLine; omega
  have ap : mAppend (sL F1) [.str (repS " " n ++ Txt.join gs ws ++ ts)] = some (sL (F1 ++ [repS " " n ++ Txt.join gs ws ++ ts])) := by
    have : F1.length < sizeLine := by unfold sizeLine; omega
    simp [this]
  have il : isLstO (sL F1) = true := rfl
  have e6 : t__law_strewn_6 (ES c L F1 (some (.int (k : Int))) (some (.str (Txt.join sp ws))) (some (.int v)) (some (.str gs)) (some (.str ts))) = .nx (ES c L (F1 ++ [repS " " n ++ Txt.join gs ws ++ ts]) (some (.int (k : Int))) (some (.str (Txt.join sp ws))) (some (.int v)) (some (.str gs)) (some (.str ts))) := by
    generalize D.lst true (ws.map .str) = V at *
    simp [t__law_strewn_6, il, n375, n4, sm, fs, fj, opAdd_s k1, opAdd_s k2, ap, -Str.length_append, -mAppend_l, -List.map_append]
  refine ⟨F1 ++ [repS " " n ++ Txt.join gs ws ++ ts], some (.int v), some (.str gs), some (.str ts), ?_, F1s.line lg hne (by omega), by simp; omega⟩
  rw [k__law_strewn_7, sThen_ap, e1, andThen_nx, sThen_ap, e3, andThen_nx, sThen_ap, e4, andThen_nx, sThen_ap, e5, andThen_nx, e6]
end Lk11
namespace Lk11
open PySem RL RM RG RR RV
open TL (tl)
section
variable {m : Mt} {nb nr : Nat}
theorem strewn_eq (g : Good nb nr m) (hnb : nb ≤ 24) (hnr : nr ≤ 12) (c : Int) : ∃ F : List Str, f__law_strewn [.int c, .lst false ((lineS m).map .str)] = .ok (.str (Txt.join ("\n" : Str) F)) [] ∧ F ≠ [] ∧ F.length ≤ 100 ∧ (∀ l ∈ F, ∃ ws, LG l ws) ∧ ((F.map RR.wordsOf).filter fun w => decide (w ≠ [])) = mtW m := by
  have h2 : 2 ≤ sizeLine := by decide
  have z0 : 0 ≤ sizeLine := by decide
  have few := lines_few g hnb hnr
  have fewW : (mtW m).length ≤ 43 := by have : (lineS m).length = (mtW m).length := by simp [lineS]
                                        omega
  have wdAll := mtW_wd g hnr
  have en : enum1 [.lst false ((lineS m).map .str)] = some (((mtW m).zipIdx 0).map fun q : List Str × Nat => .tup [.int (q.2 : Int), .str (Txt.join sp q.1)]) := by
    rw [enum_strs]
    unfold lineS
    rw [List.zipIdx_map, List.map_map]
    rfl
  obtain ⟨ρ, e7, F, k, l, w, gg, t, hρ, hF, hl⟩ := for_of (e := fun q : List Str × Nat => .tup [.int (q.2 : Int), .str (Txt.join sp q.1)]) (t := .tp [.nm 3, .nm 4]) (S := k__law_strewn_7) (fun (p : List (List Str × Nat)) ρ => ∃ F k l w g t, ρ = ES c (lineS m) F k l w g t ∧ Ls F (p.map (·.1)) ∧ F.length ≤ 2 * p.length) (xs := (mtW m).zipIdx 0) (ρ := ES c (lineS m) [] none none none none none) ⟨[], none, none, none, none, none, rfl, ⟨fun l h => by simp at h, rfl, by simp⟩, by simp⟩ (by
    rintro p ⟨ws, k⟩ q ρ he ⟨F, k0, l0, w0, g0, t0, rfl, hF, hl⟩
    have hm : (ws, k) ∈ (mtW m).zipIdx 0 := by rw [he]; simp
    have hm2 := List.mem_zipIdx hm
    have hk : k ≤ 1000 := by simp at hm2; omega
    have hws : ws ∈ mtW m := by
      have := (List.mem_zipIdx_iff_getElem?.mp hm)
      exact List.mem_of_getElem? (by simpa using this)
    have pl : p.length ≤ 43 := by
      have := congrArg List.length he
      simp at this
      omega
    obtain ⟨w1, w2, w3⟩ := wdAll ws hws
    obtain ⟨F', w', g', t', st, hF', hl'⟩ := strew_step (c := c) (L := lineS m) (k := k) (w := w0) (g := g0) (t := t0) hk hF (by rw [List.length_map]; exact hl) (by omega) w3 w2 w1
    refine ⟨_, _, ?_, st, F', _, _, w', g', t', rfl, ?_, ?_⟩
    · generalize sL F = A
      generalize D.lst false ((lineS m).map .str) = B
      simp
    · rw [List.map_append]; exact hF'
    · simpa using hl')
  subst hρ
  have pj : ((mtW m).zipIdx 0).map (·.1) = mtW m := List.zipIdx_map_fst ..
  rw [pj] at hF
  rw [List.length_zipIdx] at hl
  obtain ⟨v, mv⟩ : ∃ v : Int, f__law_mixed [.int c, .int 500] = .ok (.int v) [] := ⟨_, by rw [same_mixed]; exact RN.mix_eq (by omega)⟩
  obtain ⟨j, jl, qj⟩ := modN v (b := 3) (by decide)
  have bne : F ≠ [] := by
    rintro rfl
    have := hF.wds
    have b0 := g.c0
    unfold mtW at this
    cases q : m.cs with
    | nil => rw [q] at b0; simp at b0
    | cons a b => rw [q] at this; simp at this
  have sl : opSl (.lst true [.str "", .str "# 5"]) none (some (j : Int)) = some (sL (([("" : Str), "# 5"]).take j)) := by
    rw [opSl_l (by simp), cut_0n]
    exact congrArg (fun z => some (D.lst true z)) (List.map_take (f := D.str) (l := [("" : Str), "# 5"]) (i := j)).symm
  obtain ⟨E, hE⟩ : ∃ E : List Str, E = ([("" : Str), "# 5"]).take j := ⟨_, rfl⟩
  rw [← hE] at sl
  have El : E.length ≤ 2 := by rw [hE, List.length_take]; simp; omega
  have Em : ∀ l ∈ E, LG l [] := by
    intro l hl
    rw [hE] at hl
    have := List.mem_of_mem_take hl
    simp only [List.mem_cons, List.not_mem_nil, or_false] at this
    rcases this with rfl | rfl
    · exact void_lg (.inl (by simp))
    · exact void_lg (.inr rfl)
  have allF : ∀ l ∈ F ++ E, ∃ ws, LG l ws := fun l hl => by
    rcases List.mem_append.mp hl with z | z
    · exact hF.all l z
    · exact ⟨_, Em l z⟩
  have ad : opAdd (sL F) (sL E) = some (sL (F ++ E)) := by
    rw [opAdd_l cleanL_strs cleanL_strs (by simp [sizeLine]; omega), ← List.map_append]
  have jn : fJoin ("\n" : Str) (sL (F ++ E)) = some (.str (Txt.join ("\n" : Str) (F ++ E))) := join_strs (joinOk_of (c := 700) (n := 100) (fun l hl => (allF l hl).elim fun ws h => h.len) (by simp; omega) (by rw [nl_len]; omega))
  refine ⟨F ++ E, ?_, by simp [bne], by simp; omega, allF, ?_⟩
  · have e0 : t__law_strewn_0 [some (.int c), some (.lst false ((lineS m).map .str)), none, none, none, none, none, none] = .nx (ES c (lineS m) [] none none none none none) := by
      simp [t__law_strewn_0, z0]
    have cw : (D.lst false ((lineS m).map .str)).clean = true := by simp
    have e7' : t__law_strewn_7 (ES c (lineS m) [] none none none none none) = .nx (ES c (lineS m) F k l w gg t) := by
      have it : (sI enum1 (sCons (sVar 1) sNil)) (ES c (lineS m) [] none none none none none) = .ok (((mtW m).zipIdx 0).map fun q : List Str × Nat => .tup [.int (q.2 : Int), .str (Txt.join sp q.1)]) := by
        generalize (mtW m).zipIdx 0 = Z at *
        simp [cw, en]
      rw [t__law_strewn_7, sFor_ap, it, stm_ok, e7]
    have e8 : t__law_strewn_8 (ES c (lineS m) F k l w gg t) = .rt (.str (Txt.join ("\n" : Str) (F ++ E))) (ES c (lineS m) F k l w gg t) := by
      generalize sL (F ++ E) = V at *
      generalize sL E = U at *
      simp [t__law_strewn_8, mv, qj, sl, ad, jn, h2]
    rw [f__law_strewn, runDef_ap, show entry 8 [D.int c, .lst false ((lineS m).map .str)] = [some (.int c), some (.lst false ((lineS m).map .str)), none, none, none, none, none, none] from rfl]
    unfold b__law_strewn
    rw [sThen_ap, e0, andThen_nx, sThen_ap, e7', andThen_nx, e8]
    rfl
  · rw [List.map_append, List.filter_append, hF.wds]
    have : ((E.map RR.wordsOf).filter fun w => decide (w ≠ [])) = [] := by
      rw [List.filter_eq_nil_iff]
      intro w hw
      obtain ⟨l, hl, rfl⟩ := List.mem_map.mp hw
      simp [(Em l hl).wd]
    rw [this, List.append_nil]
theorem read_of (g : Good nb nr m) (hnb : nb ≤ 24) (hnr : nr ≤ 12) {F : List Str} (hne : F ≠ []) (hl : F.length ≤ 100) (hF : ∀ l ∈ F, ∃ ws, LG l ws) (hw : ((F.map RR.wordsOf).filter fun w => decide (w ≠ [])) = mtW m) : f_read [.str (Txt.join ("\n" : Str) F)] = .ok (objO true m) [] := by
  rw [same_read]
  have ln : (Txt.join ("\n" : Str) F).length ≤ 100000 := by
    rw [TL.len_tl, TL.join_eq, TL.tl_join, show tl ("\n" : Str) = [10] from by decide +kernel]
    have := joinL_len (S := [10]) (ws := F.map tl) (c := 700) (fun x hx => by
      obtain ⟨l, hl, rfl⟩ := List.mem_map.mp hx
      obtain ⟨ws, h⟩ := hF l hl
      rw [← TL.len_tl]
      exact h.len)
    rw [List.length_map] at this
    simp only [List.length_cons, List.length_nil] at this
    omega
  exact read_lines (by decide +kernel) g hnb hnr hne (fun l hl => (hF l hl).elim fun ws h => h.fr) (fun l hl => (hF l hl).elim fun ws h => h.ok) hw ln (by omega)
theorem lines_lg (g : Good nb nr m) (hnr : nr ≤ 12) : (∀ l ∈ lineS m, ∃ ws, LG l ws) ∧ (((lineS m).map RR.wordsOf).filter fun w => decide (w ≠ [])) = mtW m := by
  have key : ∀ ws ∈ mtW m, LG (Txt.join sp ws) ws := fun ws hws => by
    obtain ⟨w1, w2, w3⟩ := mtW_wd g hnr ws hws
    refine lg_plain (n := 0) (g := 0) (k := 0) (by decide) (by decide) (by decide) w3 w2 ?_
    rw [tl_join]
    simp [bodyL]
  refine ⟨fun l hl => ?_, ?_⟩
  · unfold lineS at hl
    obtain ⟨ws, hw, rfl⟩ := List.mem_map.mp hl
    exact ⟨ws, key ws hw⟩
  · unfold lineS
    rw [List.map_map]
    have : (mtW m).map (RR.wordsOf ∘ Txt.join sp) = mtW m := by
      conv => rhs; rw [← List.map_id (mtW m)]
      exact List.map_congr_left fun ws hw => (key ws hw).wd
    rw [this, List.filter_eq_self]
    intro ws hw
    simp [(mtW_wd g hnr ws hw).1]
theorem isM {o : Bool} : fIsObj iso_Meeting (objO o m) = some (.bl true) := by
  have : subGo iso_Meeting "Meeting" = some true := by decide +kernel
  simp [fIsObj, objO, this]
abbrev ER (m : Mt) (x : Str) (k f : Option D) : RL.Env := [some (.str x), some m.D, some (.str (wholeS m)), k, f]
theorem is_read_eq (g : Good nb nr m) (hnb : nb ≤ 24) (hnr : nr ≤ 12) {x : Str} (rd : f_read [.str x] = .ok (objO true m) []) : f__law_is_read [.str x, m.D, .str (wholeS m)] = .ok (.bl true) [] := by
  have c6 := g.c6
  have sh := shown_eq g hnb hnr
  have rp := (sh_tD g (by omega) (by omega)).rep (by omega)
  have tp := tp_eq (m := m)
  have tt := isM (m := m) (o := false)
  have step : ∀ k f, k__law_is_read_2 (ER m x k f) = .nx (ER m x k (some (obj m))) := by
    intro k f
    have e0 : t__law_is_read_0 (ER m x k f) = .nx (ER m x k (some (obj m))) := by
      simp [t__law_is_read_0, rd]
    have pl := plain_at (i := 4) (ρ := ER m x k (some (obj m))) (m := m) (by omega) rfl
    have e1 : t__law_is_read_1 (ER m x k (some (obj m))) = .nx (ER m x k (some (obj m))) := by
      simp [t__law_is_read_1, tt, pl, rp, tp, sh, -sMeth_ap]
    rw [k__law_is_read_2, sThen_ap, e0, andThen_nx, e1]
  obtain ⟨ρ, h7, k', f', rfl⟩ := for_up (t := 3) (S := k__law_is_read_2) (fun i ρ => ∃ k f, ρ = ER m x k f) (n := 2) (ρ := ER m x none none) ⟨none, none, rfl⟩ (by rintro i ρ ⟨k, f, rfl⟩; simp) (by
    rintro i ρ hi ⟨k, f, rfl⟩
    exact ⟨_, step _ _, _, _, rfl⟩)
  have e7 : t__law_is_read_2 (ER m x none none) = .nx (ER m x k' f') := by
    have e : (sCons (sC (.int 2)) sNil) (ER m x none none) = .ok [.int ((2 : Nat) : Int)] := rfl
    rw [t__law_is_read_2, sFor_ap, sI_ap, e, bind_ok, rng1_nat (by decide), opt_some, stm_ok]
    exact h7
  rw [f__law_is_read, runDef_ap, show entry 5 [D.str x, m.D, .str (wholeS m)] = ER m x none none from rfl]
  unfold b__law_is_read
  rw [sThen_ap, e7, andThen_nx]
  rfl
abbrev EW (ns : List Int) (m : Mt) (k5 s k7 c : Option D) : RL.Env := [some (.scr ns), some m.D, some (.lst false ((lineS m).map .str)), some (.str (wholeS m)), some (obj m), k5, s, k7, c]
theorem law_true (ns : List Int) (hn : ns.length ≤ 63) : ∃ os, f_law [.scr ns] = .ok (.bl true) os := by
  have h1 : 1 ≤ sizeLine := by decide
  obtain ⟨m, g, hm⟩ := meeting_eq (ns := ns) (nb := 24) (nr := 12) (by decide) (by decide) (by decide)
  rw [← same_meeting] at hm
  have hnb : (24 : Nat) ≤ 24 := Nat.le_refl _
  have hnr : (12 : Nat) ≤ 12 := Nat.le_refl _
  have c6 := g.c6
  have ho := of_eq g (by decide) (by decide)
  rw [← same_of] at ho
  have lq := RV.lines_eq g hnb hnr
  rw [← same_lines] at lq
  have few := lines_few g hnb hnr
  have sh := shown_eq g hnb hnr
  obtain ⟨lg, lw⟩ := lines_lg g hnr
  have lne : lineS m ≠ [] := by
    have b0 := g.c0
    rw [lineS_eq]
    cases q : m.cs with
    | nil => rw [q] at b0; simp at b0
    | cons a b => simp
  have ird := is_read_eq g hnb hnr (x := wholeS m) (read_of g hnb hnr lne (by omega) lg lw)
  have jn : fJoin ("\n" : Str) (.lst false ((lineS m).map .str)) = some (.str (wholeS m)) := join_strs (joinOk_of (c := 606) (n := 43) (line_len g hnr) few (by rw [nl_len]; omega))
  have e0 : t_law_0 [some (.scr ns), none, none, none, none, none, none, none, none] = .nx [some (.scr ns), some m.D, none, none, none, none, none, none, none] := by
    have hm' : f__law_meeting [.scr ns, .int 24, .int 12] = .ok m.D [] := hm
    simp [t_law_0, hm']
  have e1 : t_law_1 [some (.scr ns), some m.D, none, none, none, none, none, none, none] = .nx [some (.scr ns), some m.D, some (.lst false ((lineS m).map .str)), none, none, none, none, none, none] := by
    have fz : (sL (lineS m)).frz = .lst false ((lineS m).map .str) := by rw [D.frz, frzL_strs]
    generalize sL (lineS m) = A at *
    simp [t_law_1, lq, fz]
  have e2 : t_law_2 [some (.scr ns), some m.D, some (.lst false ((lineS m).map .str)), none, none, none, none, none, none] = .nx [some (.scr ns), some m.D, some (.lst false ((lineS m).map .str)), some (.str (wholeS m)), none, none, none, none, none] := by
    simp [t_law_2, jn]
  have e3 : t_law_3 [some (.scr ns), some m.D, some (.lst false ((lineS m).map .str)), some (.str (wholeS m)), none, none, none, none, none] = .nx (EW ns m none none none none) := by
    simp [t_law_3, ho]
  have isS := isTy_str (d := .str (wholeS m)) rfl
  have stp : ∀ a b c d, k_law_6 (EW ns m a b c d) = .nx (EW ns m a (some (.str (wholeS m))) c d) := by
    intro a b c d
    have f4 : t_law_4 (EW ns m a b c d) = .nx (EW ns m a (some (.str (wholeS m))) c d) := by
      simp [t_law_4, sh]
    have f5 : t_law_5 (EW ns m a (some (.str (wholeS m))) c d) = .nx (EW ns m a (some (.str (wholeS m))) c d) := by
      simp [t_law_5, isS, ird]
    rw [k_law_6, sThen_ap, f4, andThen_nx, f5]
  obtain ⟨ρ, h6, a6, b6, rfl⟩ := for_up (t := 5) (S := k_law_6) (fun i ρ => ∃ a b, ρ = EW ns m a b none none) (n := 2) (ρ := EW ns m none none none none) ⟨none, none, rfl⟩ (by rintro i ρ ⟨a, b, rfl⟩; simp) (by
    rintro i ρ hi ⟨a, b, rfl⟩
    exact ⟨_, stp _ _ _ _, _, _, rfl⟩)
  have e6 : t_law_6 (EW ns m none none none none) = .nx (EW ns m a6 b6 none none) := by
    have e : (sCons (sC (.int 2)) sNil) (EW ns m none none none none) = .ok [.int ((2 : Nat) : Int)] := rfl
    rw [t_law_6, sFor_ap, sI_ap, e, bind_ok, rng1_nat (by decide), opt_some, stm_ok]
    exact h6
  obtain ⟨cs, hcs⟩ : ∃ cs : List Int, cs = RL.cutL ns (some 4) (some 63) := ⟨_, rfl⟩
  have cll : cs.length ≤ 59 := by
    have := cut_nn ns 4 63
    rw [show ((4 : Nat) : Int) = 4 from rfl, show ((63 : Nat) : Int) = 63 from rfl] at this
    rw [hcs, this, List.length_take, List.length_drop]
    omega
  have en := enum_ints (o := true) (cs := cs ++ [0])
  obtain ⟨ρ8, h8, a8, b8, rfl⟩ := for_of (e := fun q : Int × Nat => .tup [.int (q.2 : Int), .int q.1]) (t := .tp [.nm 7, .nm 8]) (S := t_law_7) (fun _ ρ => ∃ c d, ρ = EW ns m a6 b6 c d) (xs := (cs ++ [0]).zipIdx 0) (ρ := EW ns m a6 b6 none none) ⟨none, none, rfl⟩ (by
    rintro pre ⟨c, k⟩ post ρ he ⟨c0, d0, rfl⟩
    have hk : k < 60 + 1 := by
      have hm : (c, k) ∈ (cs ++ [0]).zipIdx 0 := by rw [he]; simp
      have := List.mem_zipIdx hm
      simp at this
      omega
    obtain ⟨v, mv⟩ : ∃ v : Int, f__law_mixed [.int c, .int (600 + (k : Int))] = .ok (.int v) [] := ⟨_, by rw [same_mixed]; exact RN.mix_eq (by omega)⟩
    obtain ⟨F, u1, u2, u3, u4, u5⟩ := strewn_eq g hnb hnr v
    have ir := is_read_eq g hnb hnr (read_of g hnb hnr u2 u3 u4 u5)
    have cw : (D.lst false ((lineS m).map .str)).clean = true := by simp
    have fw : (D.lst false ((lineS m).map .str)).frz = .lst false ((lineS m).map .str) := by rw [D.frz, frzL_strs]
    refine ⟨_, EW ns m a6 b6 (some (.int (k : Int))) (some (.int c)), by simp; rfl, ?_, _, _, rfl⟩
    have a : (sCons (sCallF 2 f__law_strewn (sCons (sCallF 2 f__law_mixed (sCons (sVar 8) (sCons (s2 opAdd (sC (.int 600)) (sVarB 7)) sNil))) (sCons (sVar 2) sNil))) (sCons (sVar 1) (sCons (sVar 3) sNil))) (EW ns m a6 b6 (some (.int (k : Int))) (some (.int c))) = .ok [.str (Txt.join ("\n" : Str) F), m.D, .str (wholeS m)] := by
      have u1' : f__law_strewn (frzL [.int v, .lst false ((lineS m).map .str)]) = .ok (.str (Txt.join ("\n" : Str) F)) [] := by
        simp only [frzL_cons, frzL_nil, fw]; exact u1
      have b : (sCallF 2 f__law_strewn (sCons (sCallF 2 f__law_mixed (sCons (sVar 8) (sCons (s2 opAdd (sC (.int 600)) (sVarB 7)) sNil))) (sCons (sVar 2) sNil))) (EW ns m a6 b6 (some (.int (k : Int))) (some (.int c))) = .ok (.str (Txt.join ("\n" : Str) F)) := by
        have b1 : (sCons (sCallF 2 f__law_mixed (sCons (sVar 8) (sCons (s2 opAdd (sC (.int 600)) (sVarB 7)) sNil))) (sCons (sVar 2) sNil)) (EW ns m a6 b6 (some (.int (k : Int))) (some (.int c))) = .ok [.int v, .lst false ((lineS m).map .str)] := by
          simp [mv]
        rw [sCallF_ap, b1, bind_ok, u1']
        rfl
      rw [sCons_ap, b, bind_ok]
      simp
    have t : sNot (sTest (sCallF 3 f__law_is_read (sCons (sCallF 2 f__law_strewn (sCons (sCallF 2 f__law_mixed (sCons (sVar 8) (sCons (s2 opAdd (sC (.int 600)) (sVarB 7)) sNil))) (sCons (sVar 2) sNil))) (sCons (sVar 1) (sCons (sVar 3) sNil))))) (EW ns m a6 b6 (some (.int (k : Int))) (some (.int c))) = .ok false := by
      have fz : frzL [D.str (Txt.join ("\n" : Str) F), m.D, .str (wholeS m)] = [.str (Txt.join ("\n" : Str) F), m.D, .str (wholeS m)] := by simp
      simp only [sNot_ap, sTest_ap, sCallF_ap, a, bind_ok, fz, ir]
      simp
    rw [t_law_7, sIfS_ap, t, stm_ok, if_neg (by simp)]
    rfl)
  have e8 : t_law_8 (EW ns m a6 b6 none none) = .nx (EW ns m a6 b6 a8 b8) := by
    have lc : cs.length ≤ sizeLine := by unfold sizeLine; omega
    have ad : opAdd (.lst true (cs.map .int)) (.lst true [.int 0]) = some (.lst true ((cs ++ [0]).map .int)) := by
      rw [opAdd_l cleanL_ints (by simp) (by simp [sizeLine]; omega)]
      simp
    have e : (sI enum1 (sCons (s2 opAdd (sCall (on1 fListX) (sCons (sSl (sVarB 0) (sPs (sC (.int 4))) (sPs (sC (.int 63)))) sNil)) (sLst (sCons (sC (.int 0)) sNil))) sNil)) (EW ns m a6 b6 none none) = .ok (((cs ++ [0]).zipIdx 0).map fun q : Int × Nat => .tup [.int (q.2 : Int), .int q.1]) := by
      generalize (cs ++ [0]).zipIdx 0 = Z at *
      generalize D.lst true ((cs ++ [0]).map .int) = L at *
      simp [opSl, ← hcs, fListX, fList, lc, h1, ad, en]
    rw [t_law_8, sFor_ap, e, stm_ok]
    exact h8
  have rp := (sh_tD g (by omega) (by omega)).rep (by omega)
  have tp := tp_eq (m := m)
  have pl := plain_at (i := 4) (ρ := EW ns m a6 b6 a8 b8) (m := m) (by omega) rfl
  have e9 : t_law_9 (EW ns m a6 b6 a8 b8) = .rt (.bl true) (EW ns m a6 b6 a8 b8) := by
    simp [t_law_9, pl, rp, tp, -sMeth_ap]
  refine ⟨[], ?_⟩
  rw [f_law, runDef_ap]
  unfold b_law
  rw [sThen_ap, show entry 9 [D.scr ns] = [some (.scr ns), none, none, none, none, none, none, none, none] from rfl, e0, andThen_nx, sThen_ap, e1, andThen_nx, sThen_ap, e2, andThen_nx, sThen_ap, e3, andThen_nx, sThen_ap, e6, andThen_nx, sThen_ap, e8, andThen_nx, e9]
  rfl
end
end Lk11
theorem PySem.Challenge.cw_regattaroll_k11_texts_shown_and_read_holds : PySem.Challenge.rw_regattaroll_k11_texts_shown_and_read.Holds :=
  Lk11.holds Lk11.law_true
