import PyProof.Rows.All
import Wide.All
import OpenK.AllK
import Wide.FinOn
import HandS.ForMost
import HandS.ForExc
import HandS.CallSlots
import HandS.Walk
import HandS.Wide
import HandS.IsInst
import HandS.Zip
import HandS.Comp
import HandS.EndBits
import HandS.Style
import HandS.TupLe
import HandS.ExcInit
import HandS.ClsMeth
import HandS.Words
import KE.KExcSuper
import HandS.FStr
import HandS.FStrTup
import HandS.ExcField
import HandS.TryMany
import KE.KOpsOwn
import HandS.TupAny
import HandS.Codes
import HandS.Iter
import KE.GoesMore
import HandS.Rev
import HandS.RevRange
import HandS.RaiseMore
import HandS.SortInts
import HandS.Strs
import HandS.SetFor
import HandS.Small
import HandS.Star
import KE.KCallOwn
import HandS.Flow
import HandS.Text
import HandS.TupSets
import PyProof.TupleOps
import HandS.Steps
import HandS.TryOnly
import HandS.Zip0
import KE.KDictZip
import HandS.OwnIter
import KE.KStar
import PySem.Challenge.RW_everyfield_k41_matrices_by_items
set_option Elab.async false
set_option linter.all false
set_option maxRecDepth 100000
set_option maxHeartbeats 4000000
namespace DL
open PySem PySem.Spec PyProof.Rows L2

def isTup : HO → Bool
  | .tup _ => true
  | .frz _ (.tup _) => true
  | _ => false
/-- frozen data -/
inductive D where
  | non | bl (b : Bool) | int (i : Int) | str (x : Str) | ty (n : String)
  | cls (c : Nat)
  | lst (xs : List D) | tup (xs : List D)
  | obj (c : Nat) (ns : List Str) (xs : List D)
  | dic (ks : List D) (xs : List D)
  | xd (c : Nat) (ns : List Str) (xs : List D)
  | val (v : V) | know (F : Hp) | raw (l : List (Addr × HO))

/-- owned trees over frozen data -/
inductive T where
  | fz (d : D)
  | lst (xs : List T)
  | obj (c : Nat) (ns : List Str) (xs : List T)
  | dic (ks : List D) (xs : List T)
  | raw (l : List (Addr × HO))

/-- what is fixed: the written part, the classes -/
structure Wd where
  K : PySem.W.Frag
  C : Nat → Addr

section
variable (Z : Wd)
mutual
def Rp (F : Hp) : V → D → Prop
  | v, .non => v = .non
  | v, .bl b => v = .bl b
  | v, .int i => v = .int i
  | v, .str x => v = .str x
  | v, .ty n => v = .ty n
  | v, .cls c => v = .ref (Z.C c)
  | v, .lst ds => ∃ a vs, v = .ref a ∧ SqL Z.K F a vs ∧ Rps F vs ds
  | v, .tup ds => ∃ a vs, v = .ref a ∧ SqT Z.K F a vs ∧ Rps F vs ds
  | v, .obj c ns ds => ∃ a dx vs, v = .ref a ∧ F a = some (.ins (Z.C c) dx (ns.zip vs)) ∧ ns.length = vs.length ∧ Rps F vs ds
  | v, .dic ks ds => ∃ a kvs, v = .ref a ∧ F a = some (.dK kvs) ∧ Rps F (kvs.map fun p => kV p.1) ks ∧ Rps F (kvs.map fun p => p.2) ds
  | v, .xd _ ns ds => ∃ a vs, v = .ref a ∧ F a = some (.xd (ns.zip vs)) ∧ ns.length = vs.length ∧ Rps F vs ds
  | v, .val w => v = w
  | _, .know F0 => Same F0 F
  | _, .raw l => ∀ p ∈ l, F p.1 = some p.2
def Rps (F : Hp) : List V → List D → Prop
  | [], [] => True
  | v :: vs, d :: ds => Rp F v d ∧ Rps F vs ds
  | _, _ => False
end
mutual
def Own (F H : Hp) : V → T → List Addr → Prop
  | v, .fz d, fp => Rp Z F v d ∧ fp = []
  | v, .lst ts, fp => ∃ a vs fp', v = .ref a ∧ H a = some (.lst vs) ∧ Owns F H vs ts fp' ∧ fp = a :: fp'
  | v, .obj c ns ts, fp => ∃ a dx vs fp', v = .ref a ∧ H a = some (.ins (Z.C c) dx (ns.zip vs)) ∧ ns.length = vs.length ∧ H dx = some (.own a) ∧ Owns F H vs ts fp' ∧ fp = a :: dx :: fp'
  | v, .dic ks ts, fp => ∃ a kvs fp', v = .ref a ∧ H a = some (.dK kvs) ∧ Rps Z F (kvs.map fun p => kV p.1) ks ∧ Owns F H (kvs.map fun p => p.2) ts fp' ∧ fp = a :: fp'
  | _, .raw l, fp => (∀ p ∈ l, H p.1 = some p.2 ∧ isTup p.2 = false) ∧ fp = l.map (·.1)
def Owns (F H : Hp) : List V → List T → List Addr → Prop
  | [], [], fp => fp = []
  | v :: vs, t :: ts, fp => ∃ f1 f2, Own F H v t f1 ∧ Owns F H vs ts f2 ∧ fp = f1 ++ f2
  | _, _, _ => False
end
end
mutual
@[simp] def frz : T → D
  | .fz d => d
  | .lst ts => .lst (frzs ts)
  | .obj c ns ts => .obj c ns (frzs ts)
  | .dic ks ts => .dic ks (frzs ts)
  | .raw l => .raw l
@[simp] def frzs : List T → List D
  | [] => []
  | t :: ts => frz t :: frzs ts
end

/-! ### frozen data stay -/
theorem same_t {K : PySem.W.Frag} {H H' : Hp} {a : Addr} {xs : List V} (e : Same H H') (h : SqT K H a xs) : SqT K H' a xs := by
  rcases h with (h | ⟨o, h⟩) | h
  · exact .inl (.inl (e _ _ h))
  · exact .inl (.inr ⟨o, e _ _ h⟩)
  · exact .inr h
section
variable {Z : Wd} {F F' H H' : Hp}
mutual
theorem Rp.mono (s : Same F F') : ∀ {v : V} {d : D}, Rp Z F v d → Rp Z F' v d
  | _, .non, h => h
  | _, .bl _, h => h
  | _, .int _, h => h
  | _, .str _, h => h
  | _, .ty _, h => h
  | _, .cls _, h => h
  | _, .lst ds, h => by
    obtain ⟨a, vs, e, q, r⟩ := h
    exact ⟨a, vs, e, s.seq q, Rps.mono s (ds := ds) r⟩
  | _, .tup ds, h => by
    obtain ⟨a, vs, e, q, r⟩ := h
    exact ⟨a, vs, e, same_t s q, Rps.mono s (ds := ds) r⟩
  | _, .obj c ns ds, h => by
    obtain ⟨a, dx, vs, e, q, l, r⟩ := h
    exact ⟨a, dx, vs, e, s _ _ q, l, Rps.mono s (ds := ds) r⟩
  | _, .dic ks ds, h => by
    obtain ⟨a, kvs, e, q, l, r⟩ := h
    exact ⟨a, kvs, e, s _ _ q, Rps.mono s (ds := ks) l, Rps.mono s (ds := ds) r⟩
  | _, .xd _ ns ds, h => by
    obtain ⟨a, vs, e, q, l, r⟩ := h
    exact ⟨a, vs, e, s _ _ q, l, Rps.mono s (ds := ds) r⟩
  | _, .val _, h => h
  | _, .know _, h => fun b x e => s b x (h b x e)
  | _, .raw _, h => fun p hp => s _ _ (h p hp)
theorem Rps.mono (s : Same F F') : ∀ {vs : List V} {ds : List D}, Rps Z F vs ds → Rps Z F' vs ds
  | [], [], _ => trivial
  | _ :: _, d :: ds, h => ⟨Rp.mono s (d := d) h.1, Rps.mono s (ds := ds) h.2⟩
  | [], _ :: _, h => h
  | _ :: _, [], h => h
end
theorem Rps.length : ∀ {vs : List V} {ds : List D}, Rps Z F vs ds → vs.length = ds.length
  | [], [], _ => rfl
  | _ :: _, _ :: _, h => congrArg (· + 1) (Rps.length h.2)
  | [], _ :: _, h => h.elim
  | _ :: _, [], h => h.elim
theorem Rps.get : ∀ {vs : List V} {ds : List D} {i : Nat} {d : D}, Rps Z F vs ds → ds[i]? = some d → ∃ v, vs[i]? = some v ∧ Rp Z F v d
  | [], [], _, _, _, e => by simp at e
  | v :: vs, d :: ds, 0, _, h, e => by
    have e : d = _ := Option.some.inj e
    subst e
    exact ⟨v, rfl, h.1⟩
  | v :: vs, d :: ds, i + 1, x, h, e => Rps.get (vs := vs) (ds := ds) (i := i) (d := x) h.2 e
  | [], _ :: _, _, _, h, _ => h.elim
  | _ :: _, [], _, _, h, _ => h.elim
theorem Rps.append : ∀ {vs ws : List V} {ds es : List D}, Rps Z F vs ds → Rps Z F ws es → Rps Z F (vs ++ ws) (ds ++ es)
  | [], _, [], _, _, h => h
  | _ :: _, _, _ :: _, _, h, h' => ⟨h.1, Rps.append h.2 h'⟩
  | [], _, _ :: _, _, h, _ => h.elim
  | _ :: _, _, [], _, h, _ => h.elim

/-! ### owned trees stay where their own addresses stay -/
mutual
theorem Own.stay (s : Same F F') : ∀ {v : V} {t : T} {fp : List Addr}, Own Z F H v t fp → (∀ b ∈ fp, H' b = H b) → Own Z F' H' v t fp
  | _, .fz d, _, h, _ => ⟨Rp.mono s h.1, h.2⟩
  | _, .lst ts, _, h, k => by
    obtain ⟨a, vs, fp', e, q, r, rfl⟩ := h
    exact ⟨a, vs, fp', e, (k a (List.mem_cons_self ..)).trans q, Owns.stay s (ts := ts) r fun b hb => k b (List.mem_cons_of_mem _ hb), rfl⟩
  | _, .obj c ns ts, _, h, k => by
    obtain ⟨a, dx, vs, fp', e, q, l, qd, r, rfl⟩ := h
    exact ⟨a, dx, vs, fp', e, (k a (List.mem_cons_self ..)).trans q, l, (k dx (List.mem_cons_of_mem _ (List.mem_cons_self ..))).trans qd, Owns.stay s (ts := ts) r fun b hb => k b (List.mem_cons_of_mem _ (List.mem_cons_of_mem _ hb)), rfl⟩
  | _, .dic ks ts, _, h, k => by
    obtain ⟨a, kvs, fp', e, q, l, r, rfl⟩ := h
    exact ⟨a, kvs, fp', e, (k a (List.mem_cons_self ..)).trans q, Rps.mono s l, Owns.stay s (ts := ts) r fun b hb => k b (List.mem_cons_of_mem _ hb), rfl⟩
  | _, .raw l, _, h, k => ⟨fun p hp => ⟨(k p.1 (by rw [h.2]; exact List.mem_map_of_mem hp)).trans (h.1 p hp).1, (h.1 p hp).2⟩, h.2⟩
theorem Owns.stay (s : Same F F') : ∀ {vs : List V} {ts : List T} {fp : List Addr}, Owns Z F H vs ts fp → (∀ b ∈ fp, H' b = H b) → Owns Z F' H' vs ts fp
  | [], [], _, h, _ => h
  | _ :: _, t :: ts, _, h, k => by
    obtain ⟨f1, f2, h1, h2, rfl⟩ := h
    exact ⟨f1, f2, Own.stay s (t := t) h1 fun b hb => k b (List.mem_append_left _ hb), Owns.stay s (ts := ts) h2 fun b hb => k b (List.mem_append_right _ hb), rfl⟩
  | [], _ :: _, _, h, _ => h
  | _ :: _, [], _, h, _ => h
end
mutual
theorem Own.there : ∀ {v : V} {t : T} {fp : List Addr}, Own Z F H v t fp → ∀ b ∈ fp, ∃ o, H b = some o
  | _, .fz d, _, h, b, hb => by rw [h.2] at hb; cases hb
  | _, .lst ts, _, h, b, hb => by
    obtain ⟨a, vs, fp', e, q, r, rfl⟩ := h
    rcases List.mem_cons.mp hb with rfl | hb
    · exact ⟨_, q⟩
    · exact Owns.there (ts := ts) r b hb
  | _, .obj c ns ts, _, h, b, hb => by
    obtain ⟨a, dx, vs, fp', e, q, l, qd, r, rfl⟩ := h
    rcases List.mem_cons.mp hb with rfl | hb
    · exact ⟨_, q⟩
    rcases List.mem_cons.mp hb with rfl | hb
    · exact ⟨_, qd⟩
    · exact Owns.there (ts := ts) r b hb
  | _, .dic ks ts, _, h, b, hb => by
    obtain ⟨a, kvs, fp', e, q, l, r, rfl⟩ := h
    rcases List.mem_cons.mp hb with rfl | hb
    · exact ⟨_, q⟩
    · exact Owns.there (ts := ts) r b hb
  | _, .raw l, _, h, b, hb => by
    rw [h.2] at hb
    obtain ⟨p, hp, rfl⟩ := List.mem_map.mp hb
    exact ⟨_, (h.1 p hp).1⟩
theorem Owns.there : ∀ {vs : List V} {ts : List T} {fp : List Addr}, Owns Z F H vs ts fp → ∀ b ∈ fp, ∃ o, H b = some o
  | [], [], _, h, b, hb => by
    have h : _ = [] := h
    rw [h] at hb; cases hb
  | _ :: _, t :: ts, _, h, b, hb => by
    obtain ⟨f1, f2, h1, h2, rfl⟩ := h
    rcases List.mem_append.mp hb with hb | hb
    · exact Own.there (t := t) h1 b hb
    · exact Owns.there (ts := ts) h2 b hb
  | [], _ :: _, _, h, _, _ => h.elim
  | _ :: _, [], _, h, _, _ => h.elim
end
/-! a tree frozen -/
mutual
theorem Own.frz (s : Same F F') : ∀ {v : V} {t : T} {fp : List Addr}, Own Z F H v t fp → (∀ b ∈ fp, F' b = H b) → Rp Z F' v (frz t)
  | _, .fz d, _, h, _ => Rp.mono s h.1
  | _, .lst ts, _, h, k => by
    obtain ⟨a, vs, fp', e, q, r, rfl⟩ := h
    exact ⟨a, vs, e, SqL.of ((k a (List.mem_cons_self ..)).trans q), Owns.frz s (ts := ts) r fun b hb => k b (List.mem_cons_of_mem _ hb)⟩
  | _, .obj c ns ts, _, h, k => by
    obtain ⟨a, dx, vs, fp', e, q, l, qd, r, rfl⟩ := h
    exact ⟨a, dx, vs, e, (k a (List.mem_cons_self ..)).trans q, l, Owns.frz s (ts := ts) r fun b hb => k b (List.mem_cons_of_mem _ (List.mem_cons_of_mem _ hb))⟩
  | _, .dic ks ts, _, h, k => by
    obtain ⟨a, kvs, fp', e, q, l, r, rfl⟩ := h
    exact ⟨a, kvs, e, (k a (List.mem_cons_self ..)).trans q, Rps.mono s l, Owns.frz s (ts := ts) r fun b hb => k b (List.mem_cons_of_mem _ hb)⟩
  | _, .raw l, _, h, k => fun p hp => (k p.1 (by rw [h.2]; exact List.mem_map_of_mem hp)).trans (h.1 p hp).1
theorem Owns.frz (s : Same F F') : ∀ {vs : List V} {ts : List T} {fp : List Addr}, Owns Z F H vs ts fp → (∀ b ∈ fp, F' b = H b) → Rps Z F' vs (frzs ts)
  | [], [], _, _, _ => trivial
  | _ :: _, t :: ts, _, h, k => by
    obtain ⟨f1, f2, h1, h2, rfl⟩ := h
    exact ⟨Own.frz s (t := t) h1 fun b hb => k b (List.mem_append_left _ hb), Owns.frz s (ts := ts) h2 fun b hb => k b (List.mem_append_right _ hb)⟩
  | [], _ :: _, _, h, _ => h
  | _ :: _, [], _, h, _ => h
end
theorem Owns.append : ∀ {vs ws : List V} {ts us : List T} {f g : List Addr}, Owns Z F H vs ts f → Owns Z F H ws us g → Owns Z F H (vs ++ ws) (ts ++ us) (f ++ g)
  | [], _, [], _, _, _, h, h' => by
    have h : _ = [] := h
    rw [h]; exact h'
  | v :: vs, ws, t :: ts, us, _, g, h, h' => by
    obtain ⟨f1, f2, h1, h2, rfl⟩ := h
    exact ⟨f1, f2 ++ g, h1, Owns.append h2 h', List.append_assoc ..⟩
  | [], _, _ :: _, _, _, _, h, _ => h.elim
  | _ :: _, _, [], _, _, _, h, _ => h.elim
theorem Owns.split : ∀ {vs ws : List V} {ts us : List T} {f : List Addr}, vs.length = ts.length → Owns Z F H (vs ++ ws) (ts ++ us) f → ∃ f1 f2, Owns Z F H vs ts f1 ∧ Owns Z F H ws us f2 ∧ f = f1 ++ f2
  | [], _, [], _, f, _, h => ⟨[], f, rfl, h, rfl⟩
  | v :: vs, ws, t :: ts, us, _, l, h => by
    obtain ⟨f1, f2, h1, h2, rfl⟩ := h
    obtain ⟨g1, g2, k1, k2, rfl⟩ := Owns.split (vs := vs) (ts := ts) (Nat.succ.inj l) h2
    exact ⟨f1 ++ g1, g2, ⟨f1, g1, h1, k1, rfl⟩, k2, (List.append_assoc ..).symm⟩
  | [], _, _ :: _, _, _, l, _ => by cases l
  | _ :: _, _, [], _, _, l, _ => by cases l
theorem Owns.length : ∀ {vs : List V} {ts : List T} {f : List Addr}, Owns Z F H vs ts f → vs.length = ts.length
  | [], [], _, _ => rfl
  | _ :: _, _ :: _, _, h => by
    obtain ⟨f1, f2, h1, h2, rfl⟩ := h
    exact congrArg (· + 1) (Owns.length h2)
  | [], _ :: _, _, h => h.elim
  | _ :: _, [], _, h => h.elim
end
end DL

set_option maxHeartbeats 4000000
namespace DL
open PySem PySem.Spec PyProof.Rows L2
/-- roots with their footprint -/
def OwnR (Z : Wd) (F H : Hp) : List (V × T) → List Addr → Prop
  | [], fp => fp = []
  | r :: rs, fp => ∃ f1 f2, Own Z F H r.1 r.2 f1 ∧ OwnR Z F H rs f2 ∧ fp = f1 ++ f2
def Roots (Z : Wd) (H : Hp) (rs : List (V × T)) : Prop := ∃ F fp, Same F H ∧ OwnR Z F H rs fp ∧ fp.Nodup ∧ ∀ p ∈ fp, F p = none
section
variable {Z : Wd} {F F' H H' : Hp}
theorem OwnR.stay (s : Same F F') : ∀ {rs : List (V × T)} {fp : List Addr}, OwnR Z F H rs fp → (∀ b ∈ fp, H' b = H b) → OwnR Z F' H' rs fp
  | [], _, h, _ => h
  | r :: rs, _, h, k => by
    obtain ⟨f1, f2, h1, h2, rfl⟩ := h
    exact ⟨f1, f2, Own.stay s h1 fun b hb => k b (List.mem_append_left _ hb), OwnR.stay s h2 fun b hb => k b (List.mem_append_right _ hb), rfl⟩
theorem OwnR.there : ∀ {rs : List (V × T)} {fp : List Addr}, OwnR Z F H rs fp → ∀ b ∈ fp, ∃ o, H b = some o
  | [], _, h, b, hb => by
    have h : _ = [] := h
    rw [h] at hb; cases hb
  | r :: rs, _, h, b, hb => by
    obtain ⟨f1, f2, h1, h2, rfl⟩ := h
    rcases List.mem_append.mp hb with hb | hb
    · exact Own.there h1 b hb
    · exact OwnR.there h2 b hb
theorem OwnR.append : ∀ {rs qs : List (V × T)} {f g : List Addr}, OwnR Z F H rs f → OwnR Z F H qs g → OwnR Z F H (rs ++ qs) (f ++ g)
  | [], _, _, _, h, h' => by
    have h : _ = [] := h
    rw [h]; exact h'
  | r :: rs, qs, _, g, h, h' => by
    obtain ⟨f1, f2, h1, h2, rfl⟩ := h
    exact ⟨f1, f2 ++ g, h1, OwnR.append h2 h', List.append_assoc ..⟩
theorem OwnR.split : ∀ {rs qs : List (V × T)} {f : List Addr}, OwnR Z F H (rs ++ qs) f → ∃ f1 f2, OwnR Z F H rs f1 ∧ OwnR Z F H qs f2 ∧ f = f1 ++ f2
  | [], _, f, h => ⟨[], f, rfl, h, rfl⟩
  | r :: rs, qs, _, h => by
    obtain ⟨f1, f2, h1, h2, rfl⟩ := h
    obtain ⟨g1, g2, k1, k2, rfl⟩ := OwnR.split (rs := rs) h2
    exact ⟨f1 ++ g1, g2, ⟨f1, g1, h1, k1, rfl⟩, k2, (List.append_assoc ..).symm⟩
theorem OwnR.perm {rs qs : List (V × T)} (p : rs.Perm qs) : ∀ {f : List Addr}, OwnR Z F H rs f → ∃ g, OwnR Z F H qs g ∧ f.Perm g := by
  induction p with
  | nil => exact fun h => ⟨_, h, .refl _⟩
  | cons x _ ih =>
    rintro f ⟨f1, f2, h1, h2, rfl⟩
    obtain ⟨g, h, q⟩ := ih h2
    exact ⟨f1 ++ g, ⟨f1, g, h1, h, rfl⟩, q.append_left f1⟩
  | swap x y l =>
    rintro f ⟨f1, f2, h1, ⟨f3, f4, h3, h4, rfl⟩, rfl⟩
    refine ⟨f3 ++ (f1 ++ f4), ⟨f3, f1 ++ f4, h3, ⟨f1, f4, h1, h4, rfl⟩, rfl⟩, ?_⟩
    rw [← List.append_assoc, ← List.append_assoc]
    exact List.perm_append_comm.append_right f4
  | trans _ _ ih1 ih2 =>
    intro f h
    obtain ⟨g, h1, q1⟩ := ih1 h
    obtain ⟨k, h2, q2⟩ := ih2 h1
    exact ⟨k, h2, q1.trans q2⟩
theorem Roots.perm {rs qs : List (V × T)} (h : Roots Z H rs) (p : rs.Perm qs) : Roots Z H qs := by
  obtain ⟨F, f, s, o, n, d⟩ := h
  obtain ⟨g, o', q⟩ := OwnR.perm p o
  exact ⟨F, g, s, o', q.nodup_iff.mp n, fun b hb => d b (q.mem_iff.mpr hb)⟩
theorem Roots.drop {r : V × T} {rs : List (V × T)} (h : Roots Z H (r :: rs)) : Roots Z H rs := by
  obtain ⟨F, _, s, ⟨f1, f2, _, o, rfl⟩, n, d⟩ := h
  exact ⟨F, f2, s, o, (List.nodup_append.mp n).2.1, fun b hb => d b (List.mem_append_right _ hb)⟩
theorem Roots.dup {v : V} {d : D} {rs : List (V × T)} (h : Roots Z H ((v, .fz d) :: rs)) : Roots Z H ((v, .fz d) :: (v, .fz d) :: rs) := by
  obtain ⟨F, _, s, ⟨f1, f2, o1, o, rfl⟩, n, d⟩ := h
  have e : f1 = [] := o1.2
  subst e
  exact ⟨F, f2, s, ⟨[], f2, o1, ⟨[], f2, o1, o, rfl⟩, rfl⟩, n, d⟩
theorem Roots.freeze {v : V} {t : T} {rs : List (V × T)} (h : Roots Z H ((v, t) :: rs)) : Roots Z H ((v, .fz (frz t)) :: rs) := by
  obtain ⟨F, _, s, ⟨f1, f2, o1, o, rfl⟩, n, d⟩ := h
  have nd := List.nodup_append.mp n
  let F' : Hp := fun b => if b ∈ f1 then H b else F b
  have in1 : ∀ b ∈ f1, F' b = H b := fun b hb => if_pos hb
  have out : ∀ b, b ∉ f1 → F' b = F b := fun b hb => if_neg hb
  have s1 : Same F F' := fun b x e => by
    have nb : b ∉ f1 := fun hb => by
      rw [d b (List.mem_append_left _ hb)] at e
      cases e
    rw [out b nb]; exact e
  refine ⟨F', f2, fun b x e => ?_, ⟨[], f2, ⟨Own.frz s1 o1 in1, rfl⟩, OwnR.stay s1 o fun _ _ => rfl, rfl⟩, nd.2.1, fun b hb => ?_⟩
  · by_cases hb : b ∈ f1
    · rw [in1 b hb] at e; exact e
    · rw [out b hb] at e; exact s b x e
  · rw [out b fun h1 => nd.2.2 b h1 b hb rfl]
    exact d b (List.mem_append_right _ hb)
theorem same_new {p : Addr} {o : HO} (h : H p = none) : Same H (upd H p o) := fun b x e => by
  rw [upd_ne (ne_of_none e h)]; exact e
/-- a new object besides -/
theorem Roots.other {p : Addr} {o : HO} {rs : List (V × T)} (h : Roots Z H rs) (hp : H p = none) : Roots Z (upd H p o) rs := by
  obtain ⟨F, f, s, ow, n, d⟩ := h
  refine ⟨F, f, s.trans (same_new hp), OwnR.stay (Same.refl F) ow fun b hb => ?_, n, d⟩
  obtain ⟨x, e⟩ := ow.there b hb
  exact upd_ne (ne_of_none e hp)
theorem OwnR.of : ∀ {vs : List V} {ts : List T} {f : List Addr}, vs.length = ts.length → OwnR Z F H (vs.zip ts) f → Owns Z F H vs ts f
  | [], [], _, _, h => h
  | v :: vs, t :: ts, _, l, h => by
    obtain ⟨f1, f2, h1, h2, e⟩ := h
    exact ⟨f1, f2, h1, OwnR.of (Nat.succ.inj l) h2, e⟩
  | [], _ :: _, _, l, _ => by cases l
  | _ :: _, [], _, l, _ => by cases l
theorem Owns.to : ∀ {vs : List V} {ts : List T} {f : List Addr}, Owns Z F H vs ts f → OwnR Z F H (vs.zip ts) f
  | [], [], _, h => h
  | v :: vs, t :: ts, _, h => by
    obtain ⟨f1, f2, h1, h2, e⟩ := h
    exact ⟨f1, f2, h1, Owns.to h2, e⟩
  | [], _ :: _, _, h => h.elim
  | _ :: _, [], _, h => h.elim
/-- a new list of the roots vs, ts -/
theorem Roots.newL {p : Addr} {vs : List V} {ts : List T} {rs : List (V × T)} (hl : vs.length = ts.length) (h : Roots Z H (vs.zip ts ++ rs)) (hp : H p = none) : Roots Z (upd H p (.lst vs)) ((.ref p, .lst ts) :: rs) := by
  obtain ⟨F, _, s, ow, n, d⟩ := h
  obtain ⟨f1, f2, o1, o2, rfl⟩ := OwnR.split ow
  have ne : ∀ b ∈ f1 ++ f2, b ≠ p := fun b hb => by
    obtain ⟨x, e⟩ := ow.there b hb
    exact ne_of_none e hp
  have Fp : F p = none := s.free hp
  refine ⟨F, p :: (f1 ++ f2), s.trans (same_new hp), ⟨p :: f1, f2, ⟨p, vs, f1, rfl, upd_same, ?_, rfl⟩, ?_, rfl⟩, List.nodup_cons.mpr ⟨fun hb => ne p hb rfl, n⟩, fun b hb => ?_⟩
  · exact Owns.stay (Same.refl F) (OwnR.of hl o1) fun b hb => upd_ne (ne b (List.mem_append_left _ hb))
  · exact OwnR.stay (Same.refl F) o2 fun b hb => upd_ne (ne b (List.mem_append_right _ hb))
  · rcases List.mem_cons.mp hb with rfl | hb
    · exact Fp
    · exact d b hb
theorem rps_of : ∀ {vs : List V} {ds : List D} {f : List Addr}, Owns Z F H vs (ds.map T.fz) f → Rps Z F vs ds ∧ f = []
  | [], [], _, h => ⟨trivial, h⟩
  | v :: vs, d :: ds, _, h => by
    obtain ⟨f1, f2, h1, h2, rfl⟩ := h
    obtain ⟨r, e⟩ := rps_of (ds := ds) h2
    have e1 : f1 = [] := h1.2
    rw [e, e1]
    exact ⟨⟨h1.1, r⟩, rfl⟩
  | [], _ :: _, _, h => h.elim
  | _ :: _, [], _, h => h.elim
/-- a new tuple of frozen roots -/
theorem Roots.newT {p : Addr} {vs : List V} {ds : List D} {rs : List (V × T)} (hl : vs.length = ds.length) (h : Roots Z H (vs.zip (ds.map T.fz) ++ rs)) (hp : H p = none) : Roots Z (upd H p (.tup vs)) ((.ref p, .fz (.tup ds)) :: rs) := by
  obtain ⟨F, _, s, ow, n, d⟩ := h
  obtain ⟨f1, f2, o1, o2, rfl⟩ := OwnR.split ow
  have Fp : F p = none := s.free hp
  obtain ⟨r, e⟩ := rps_of (OwnR.of (by rw [List.length_map]; exact hl) o1)
  subst e
  have ne : ∀ b ∈ f2, b ≠ p := fun b hb => by
    obtain ⟨x, e⟩ := o2.there b hb
    exact ne_of_none e hp
  have sF : Same F (upd F p (.tup vs)) := same_new Fp
  refine ⟨upd F p (.tup vs), f2, fun b x e => ?_, ⟨[], f2, ⟨⟨p, vs, rfl, SqT.of upd_same, Rps.mono sF r⟩, rfl⟩, OwnR.stay sF o2 fun b hb => upd_ne (ne b hb), rfl⟩, n, fun b hb => ?_⟩
  · by_cases hb : b = p
    · subst hb
      rw [upd_same] at e ⊢
      exact e
    · rw [upd_ne hb] at e ⊢
      exact s b x e
  · rw [upd_ne (ne b hb)]
    exact d b hb
/-- a frozen root is there -/
theorem Roots.fz {v : V} {d : D} {rs : List (V × T)} (h : Roots Z H ((v, .fz d) :: rs)) : Rp Z H v d := by
  obtain ⟨F, _, s, ⟨f1, f2, o1, o, rfl⟩, n, _⟩ := h
  exact Rp.mono s o1.1
theorem Roots.int {v : V} {i : Int} {rs : List (V × T)} (h : Roots Z H ((v, .fz (.int i)) :: rs)) : v = .int i := h.fz
/-- a root of data that needs no heap -/
theorem Roots.add {v : V} {d : D} {rs : List (V × T)} (h : Roots Z H rs) (k : ∀ F, Rp Z F v d) : Roots Z H ((v, .fz d) :: rs) := by
  obtain ⟨F, f, s, o, n, e⟩ := h
  exact ⟨F, f, s, ⟨[], f, ⟨k F, rfl⟩, o, rfl⟩, n, e⟩
/-- an owned list changed: its new items vs, ts come from the roots -/
theorem Roots.putL {p : Addr} {ws vs : List V} {us ts : List T} {rs qs : List (V × T)} (h : Roots Z H ((.ref p, .lst us) :: rs)) (hw : H p = some (.lst ws)) (hl : vs.length = ts.length)
    (hp : (ws.zip us ++ rs).Perm (vs.zip ts ++ qs)) : Roots Z (upd H p (.lst vs)) ((.ref p, .lst ts) :: qs) := by
  obtain ⟨F, _, s, ⟨_, f2, ⟨a, ws', f1, e1, e2, o1, rfl⟩, o2, rfl⟩, n, d⟩ := h
  cases e1
  rw [hw] at e2
  cases e2
  obtain ⟨g, og, pg⟩ := OwnR.perm hp (o1.to.append o2)
  have n' : (p :: (f1 ++ f2)).Nodup := n
  obtain ⟨np, nn⟩ := List.nodup_cons.mp n'
  have gp : ∀ b ∈ g, b ≠ p := fun b hb e => by
    subst e
    exact np (pg.mem_iff.mpr hb)
  have Fp : F p = none := d p (List.mem_append_left _ (List.mem_cons_self ..))
  obtain ⟨g1, g2, k1, k2, rfl⟩ := OwnR.split og
  refine ⟨F, p :: (g1 ++ g2), fun b x e => ?_, ⟨p :: g1, g2, ⟨p, vs, g1, rfl, upd_same, Owns.stay (Same.refl F) (OwnR.of hl k1) fun b hb => upd_ne (gp b (List.mem_append_left _ hb)), rfl⟩, OwnR.stay (Same.refl F) k2 fun b hb => upd_ne (gp b (List.mem_append_right _ hb)), rfl⟩,
    List.nodup_cons.mpr ⟨fun hb => gp p hb rfl, pg.nodup_iff.mp nn⟩, fun b hb => ?_⟩
  · rw [upd_ne (ne_of_none e Fp)]
    exact s b x e
  · rcases List.mem_cons.mp hb with rfl | hb
    · exact Fp
    · have hb' := pg.mem_iff.mpr hb
      exact d b (List.mem_cons_of_mem _ hb')
theorem Roots.lst {v : V} {ts : List T} {rs : List (V × T)} (h : Roots Z H ((v, .lst ts) :: rs)) : ∃ p vs, v = .ref p ∧ H p = some (.lst vs) ∧ vs.length = ts.length := by
  obtain ⟨F, _, s, ⟨_, f2, ⟨a, ws', f1, e1, e2, o1, rfl⟩, o2, rfl⟩, n, d⟩ := h
  exact ⟨a, ws', e1, e2, o1.length⟩
end

/-! ### slots -/
abbrev Env := List (Option T)
def slots : L2.St → Env → List (V × T)
  | some v :: σ, some t :: env => (v, t) :: slots σ env
  | _ :: σ, _ :: env => slots σ env
  | _, _ => []
def Fit (σ : L2.St) (env : Env) : Prop := σ.length = env.length ∧ ∀ (i : Nat) (t : T), env[i]? = some (some t) → ∃ v, σ[i]? = some (some v)
theorem slots_none : ∀ (σ : L2.St) (env : Env) (i : Nat) (x : Option V), slots (σ.set i x) (env.set i none) = slots σ (env.set i none)
  | [], _, _, _ => rfl
  | _ :: _, [], _, _ => by simp [slots]
  | o :: σ, e :: env, 0, x => by
    cases o <;> cases x <;> rfl
  | o :: σ, e :: env, i + 1, x => by
    have ih := slots_none σ env i x
    cases o <;> cases e <;> simp [slots, ih]
theorem slots_set : ∀ {σ : L2.St} {env : Env} {i : Nat} {v : V} {t : T}, i < σ.length → i < env.length → (slots (σ.set i (some v)) (env.set i (some t))).Perm ((v, t) :: slots σ (env.set i none))
  | [], _, _, _, _, h, _ => by simp at h
  | _ :: _, [], _, _, _, _, h => by simp at h
  | o :: σ, e :: env, 0, v, t, _, _ => by cases o <;> exact .refl _
  | o :: σ, e :: env, i + 1, v, t, h, h' => by
    have ih := slots_set (σ := σ) (env := env) (i := i) (v := v) (t := t) (by simpa using h) (by simpa using h')
    cases o <;> cases e <;> first | exact ih | exact (ih.cons _).trans (.swap ..)
theorem set_self {α : Type} : ∀ {l : List α} {i : Nat} {a : α}, l[i]? = some a → l.set i a = l
  | [], _, _, _ => rfl
  | x :: l, 0, a, h => by
    have e : x = a := Option.some.inj h
    rw [e]; rfl
  | x :: l, i + 1, a, h => by
    show x :: l.set i a = x :: l
    rw [set_self (l := l) h]
theorem lt_of_get {α : Type} {l : List α} {i : Nat} {a : α} (h : l[i]? = some a) : i < l.length := (List.getElem?_eq_some_iff.mp h).1
theorem slots_get {σ : L2.St} {env : Env} {i : Nat} {v : V} {t : T} (h : σ[i]? = some (some v)) (h' : env[i]? = some (some t)) : (slots σ env).Perm ((v, t) :: slots σ (env.set i none)) := by
  have p := slots_set (v := v) (t := t) (lt_of_get h) (lt_of_get h')
  rw [set_self h, set_self h'] at p
  exact p
end DL

set_option maxHeartbeats 4000000
namespace DL
open PySem PySem.Spec PyProof.Rows L2
/-- what is fixed in a def's body: the world, the slots whose values stay (parameters that are changed in place) -/
structure Sg where
  Z : Wd
  io : List Nat
  s0 : L2.St
  n : Nat
  hot : Bool
structure Ex where
  c : Nat
  d : Option (List Str × List D)
inductive R (α : Type) where
  | ok (a : α) (env : Env) | ex (x : Ex) (env : Env) | no
@[simp] def R.bind {α β : Type} (r : R α) (k : α → Env → R β) : R β := match r with
  | .ok a env => k a env
  | .ex x env => .ex x env
  | .no => .no
abbrev M (α : Type) := Env → R α
def Rel (G : Sg) (H : Hp) (σ : L2.St) (env : Env) (ex : List (V × T)) : Prop :=
  Fit σ env ∧ (env.length = G.n ∧ ∀ i ∈ G.io, σ[i]? = G.s0[i]?) ∧ Roots G.Z H (slots σ env ++ ex)
section
variable {G : Sg} {H H' : Hp} {σ : L2.St} {env : Env} {ex l : List (V × T)}
theorem Rel.out (h : Rel G H σ env (l ++ ex)) : Roots G.Z H (l ++ (slots σ env ++ ex)) := by
  refine h.2.2.perm ?_
  rw [← List.append_assoc, ← List.append_assoc]
  exact List.perm_append_comm.append_right ex
theorem Rel.back {ex0 : List (V × T)} (h : Rel G H σ env ex0) (r : Roots G.Z H' (l ++ (slots σ env ++ ex))) : Rel G H' σ env (l ++ ex) := by
  refine ⟨h.1, h.2.1, r.perm ?_⟩
  rw [← List.append_assoc, ← List.append_assoc]
  exact List.perm_append_comm.append_right ex
theorem Rel.out1 {r : V × T} (h : Rel G H σ env (r :: ex)) : Roots G.Z H (r :: (slots σ env ++ ex)) := Rel.out (l := [r]) h
theorem Rel.back1 {r : V × T} {ex0 : List (V × T)} (h : Rel G H σ env ex0) (q : Roots G.Z H' (r :: (slots σ env ++ ex))) : Rel G H' σ env (r :: ex) := Rel.back (l := [r]) h q
theorem Rel.drop {r : V × T} (h : Rel G H σ env (r :: ex)) : Rel G H σ env ex := Rel.back (l := []) h h.out1.drop
theorem Rel.drops : ∀ {l : List (V × T)}, Rel G H σ env (l ++ ex) → Rel G H σ env ex
  | [], h => h
  | _ :: l, h => Rel.drops (l := l) h.drop
theorem Rel.freeze {v : V} {t : T} (h : Rel G H σ env ((v, t) :: ex)) : Rel G H σ env ((v, .fz (frz t)) :: ex) := h.back1 h.out1.freeze
theorem Rel.perm {ex' : List (V × T)} (h : Rel G H σ env ex) (p : ex.Perm ex') : Rel G H σ env ex' := ⟨h.1, h.2.1, h.2.2.perm (p.append_left _)⟩
theorem fit_set {v : V} {t : Option T} {i : Nat} (f : Fit σ env) : Fit (σ.set i (some v)) (env.set i t) := by
  refine ⟨by simpa using f.1, fun j u e => ?_⟩
  by_cases h : i = j
  · subst h
    by_cases hl : i < env.length
    · exact ⟨v, List.getElem?_set_self (by rw [f.1]; exact hl)⟩
    · rw [List.getElem?_eq_none (by simpa using hl)] at e
      cases e
  · rw [List.getElem?_set_ne h] at e ⊢
    exact f.2 j u e
theorem fit_none {i : Nat} (f : Fit σ env) : Fit σ (env.set i none) := by
  refine ⟨by simpa using f.1, fun j u e => ?_⟩
  by_cases h : i = j
  · subst h
    by_cases hl : i < env.length
    · rw [List.getElem?_set_self hl] at e
      cases e
    · rw [List.getElem?_eq_none (by simpa using hl)] at e
      cases e
  · rw [List.getElem?_set_ne h] at e
    exact f.2 j u e
/-- the tree of slot i taken out -/
theorem Rel.take {i : Nat} {t : T} (h : Rel G H σ env ex) (e : env[i]? = some (some t)) : ∃ v, σ[i]? = some (some v) ∧ Rel G H σ (env.set i none) ((v, t) :: ex) := by
  obtain ⟨v, ev⟩ := h.1.2 i t e
  refine ⟨v, ev, fit_none h.1, ⟨by simpa using h.2.1.1, h.2.1.2⟩, ?_⟩
  refine h.2.2.perm (((slots_get ev e).append_right ex).trans ?_)
  exact List.perm_middle.symm
theorem Rel.forget {i : Nat} (h : Rel G H σ env ex) : Rel G H σ (env.set i none) ex := by
  cases e : env[i]? with
  | none =>
    rw [List.set_eq_of_length_le (List.getElem?_eq_none_iff.mp e)]
    exact h
  | some o =>
    cases o with
    | none => rw [set_self e]; exact h
    | some t =>
      obtain ⟨v, _, r⟩ := h.take e
      exact r.drop
/-- a tree put into slot i, which holds its value -/
theorem Rel.put {i : Nat} {v : V} {t : T} (h : Rel G H σ env ((v, t) :: ex)) (e : σ[i]? = some (some v)) : Rel G H σ (env.set i (some t)) ex := by
  have hl := lt_of_get e
  have he : i < env.length := by rw [← h.1.1]; exact hl
  have f : Fit σ (env.set i (some t)) := by
    have f := fit_set (v := v) (t := some t) (i := i) h.1
    rw [set_self e] at f
    exact f
  have h2 := h.forget (i := i)
  refine ⟨f, ⟨by simpa using h.2.1.1, h.2.1.2⟩, h2.2.2.perm ?_⟩
  have p := slots_set (v := v) (t := t) hl he
  rw [set_self e] at p
  exact List.perm_middle.trans (p.symm.append_right ex)
/-- a value stored -/
theorem Rel.store {i : Nat} {v : V} {t : T} (h : Rel G H σ env ((v, t) :: ex)) (hn : i < G.n) (ni : i ∉ G.io) : Rel G H (σ.set i (some v)) (env.set i (some t)) ex := by
  have hi : i < env.length := by rw [h.2.1.1]; exact hn
  have he : i < σ.length := by rw [h.1.1]; exact hi
  have h2 := h.forget (i := i)
  refine ⟨fit_set h.1, ⟨by simpa using h.2.1.1, fun j hj => ?_⟩, h2.2.2.perm ?_⟩
  · rw [List.getElem?_set_ne (fun z => ni (by rw [z]; exact hj))]
    exact h.2.1.2 j hj
  · exact List.perm_middle.trans ((slots_set (v := v) (t := t) he hi).symm.append_right ex)
end

/-! ### wishes -/
def XOk (G : Sg) (W : WX) (σ : L2.St) (ex : List (V × T)) (env : Env) (x : Ex) : Prop := match x.d with
  | none => ∀ H', Rel G H' σ env ex → W (.ref (G.Z.C x.c)) none σ H'
  | some p => ∀ H' dx, Rel G H' σ env ((.ref dx, .fz (.xd x.c p.1 p.2)) :: ex) → W (.ref (G.Z.C x.c)) (some dx) σ H'
theorem XOk.more {G : Sg} {W : WX} {σ : L2.St} {ex : List (V × T)} {env : Env} {x : Ex} (h : XOk G W σ ex env x) (l : List (V × T)) : XOk G W σ (l ++ ex) env x := by
  unfold XOk at h ⊢
  cases e : x.d with
  | none =>
    rw [e] at h
    exact fun H' r => h H' r.drops
  | some p =>
    rw [e] at h
    refine fun H' dx r => h H' dx ?_
    have r2 : Rel G H' σ env (l ++ ((.ref dx, .fz (.xd x.c p.1 p.2)) :: ex)) := r.perm List.perm_middle.symm
    exact r2.drops
def Aft {α : Type} (xw : Env → Ex → Prop) (k : α → Env → Prop) : R α → Prop
  | .ok a e => k a e
  | .ex x e => xw e x
  | .no => False
def rdE (G : Sg) (W : WX) (f : M T) : TE := fun σ H Q => ∃ env ex, Rel G H σ env ex ∧ Aft (XOk G W σ ex) (fun t e => ∀ H' v, Rel G H' σ e ((v, t) :: ex) → Q v H') (f env)
def rdT (G : Sg) (W : WX) (f : M Bool) : TT := fun σ H Q => ∃ env ex, Rel G H σ env ex ∧ Aft (XOk G W σ ex) (fun b e => ∀ H', Rel G H' σ e ex → Q b H') (f env)
/-- arguments: src tells which are slots handed over to be changed -/
def rdA (G : Sg) (W : WX) (src : List (Option Nat)) (f : M (List T)) : TA := fun σ H Q => ∃ env ex, Rel G H σ env ex ∧
  Aft (XOk G W σ ex) (fun ts e => ∀ H' vs, vs.length = ts.length → src.length = ts.length → (∀ (k j : Nat), src[k]? = some (some j) → ∃ v, vs[k]? = some v ∧ σ[j]? = some (some v)) → Rel G H' σ e (vs.zip ts ++ ex) → Q vs H') (f env)
structure Good (X : Cx) (G : Sg) (W : WX) : Prop where
  hK : G.Z.K = X.K
  tk : Takes X W
  calm : G.hot = false → X.calm = true
  nd : X.N.Nodup
  own : PassesOwn (model X.prog X.w) X.A X.env X.xe
def DE (X : Cx) (G : Sg) (W : WX) (e : Expr) (f : M T) : Prop := Good X G W → PE X e (rdE G W f)
def DT (X : Cx) (G : Sg) (W : WX) (e : Expr) (f : M Bool) : Prop := Good X G W → PT X e (rdT G W f)
def DA (X : Cx) (G : Sg) (W : WX) (es : List Expr) (src : List (Option Nat)) (f : M (List T)) : Prop := Good X G W → PA X es (rdA G W src f)
theorem _root_.L2.PE.imp {X : Cx} {e : Expr} {t u : TE} (h : PE X e t) (k : ∀ σ H Q, u σ H Q → t σ H Q) : PE X e u := ⟨fun pins s σ H Q I q => h.run pins s σ H Q I (k σ H Q q)⟩
theorem _root_.L2.PT.imp {X : Cx} {e : Expr} {t u : TT} (h : PT X e t) (k : ∀ σ H Q, u σ H Q → t σ H Q) : PT X e u := ⟨fun pins s σ H Q I q => h.run pins s σ H Q I (k σ H Q q)⟩
theorem _root_.L2.PA.imp {X : Cx} {e : List Expr} {t u : TA} (h : PA X e t) (k : ∀ σ H Q, u σ H Q → t σ H Q) : PA X e u := ⟨fun pos pins s σ H Q I q => h.run pos pins s σ H Q I (k σ H Q q)⟩
theorem _root_.L2.PS.imp {X : Cx} {e : Stmt} {t u : TS} (h : PS X e t) (k : ∀ D σ H, u D σ H → t D σ H) : PS X e u := ⟨fun pins s σ H D I q => h.run pins s σ H D I (k D σ H q)⟩
theorem _root_.L2.PSs.imp {X : Cx} {e : List Stmt} {t u : TS} (h : PSs X e t) (k : ∀ D σ H, u D σ H → t D σ H) : PSs X e u := ⟨fun pins s σ H D I q => h.run pins s σ H D I (k D σ H q)⟩

section
variable {X : Cx} {G : Sg} {W : WX} {a b c : Expr} {fa fb fc : M T} {pos : Pos}
/-! ### names, constants -/
/-- the i-th slot's value, frozen from now on -/
@[simp] def fVar (i : Nat) (env : Env) : R T := match env[i]? with
  | some (some t) => .ok (.fz (frz t)) (env.set i (some (.fz (frz t))))
  | _ => .no
theorem de_var {i : Nat} {x : Str} (hN : X.N[i]? = some x) (hv : Vis X.env.scope x) (hd : (x == ("__debug__" : Str)) = false := by decide) (hcd : (x == ("__classdict__" : Str)) = false := by decide) : DE X G W (.Name x pos) (fVar i) := fun g =>
  (pe_var hN hv hd hcd).imp fun σ H Q ⟨env, ex, r, h⟩ => by
    unfold fVar at h
    split at h
    · rename_i t e
      obtain ⟨v, ev, r1⟩ := r.take e
      have r2 : Rel G H σ (env.set i none) ((v, .fz (frz t)) :: (v, .fz (frz t)) :: ex) := r1.freeze.back (l := [(v, .fz (frz t)), (v, .fz (frz t))]) r1.freeze.out1.dup
      have r3 := (r2.perm (.swap ..)).put ev
      rw [List.set_set] at r3
      exact ⟨v, ev, h H v r3⟩
    · exact h.elim
@[simp] def fC (d : D) (env : Env) : R T := .ok (.fz d) env
theorem de_const {v : V} {d : D} {e : Expr} (h : PE X e (tC v)) (k : ∀ F, Rp G.Z F v d) : DE X G W e (fC d) := fun g =>
  h.imp fun σ H Q ⟨env, ex, r, h⟩ => h H v (r.back1 (Roots.add r.2.2 k))
theorem de_int {i : Int} {j pos} : DE X G W (.Constant (.int i) j pos) (fC (.int i)) := de_const pe_int fun _ => rfl
theorem de_bl {i : Bool} {j pos} : DE X G W (.Constant (.bool i) j pos) (fC (.bl i)) := de_const pe_bl fun _ => rfl
theorem de_str {i : Str} {j pos} : DE X G W (.Constant (.str i) j pos) (fC (.str i)) := de_const pe_str fun _ => rfl
theorem de_non {j pos} : DE X G W (.Constant .none j pos) (fC .non) := de_const pe_non fun _ => rfl

/-! ### operators -/
/-- a two-place operation on data -/
def OpD (X : Cx) (Z : Wd) (f : Value → Value → Sem Value) (g : D → D → Option T) : Prop := ∃ r, OpR X f r ∧ ∀ (H : Hp) (rs : List (V × T)) (v1 v2 : V) (d1 d2 : D) (t : T) (Q : VK),
  Roots Z H ((v2, .fz d2) :: (v1, .fz d1) :: rs) → g d1 d2 = some t → (∀ H' v, Roots Z H' ((v, t) :: rs) → Q v H') → r v1 v2 H Q
@[simp] def ofO (env : Env) : Option T → R T
  | some t => .ok t env
  | none => .no
@[simp] def fBin (g : D → D → Option T) (fa fb : M T) (env : Env) : R T := (fa env).bind fun a e1 => (fb e1).bind fun b e2 => ofO e2 (g (frz a) (frz b))
theorem rd_bin {g : D → D → Option T} {r : R2} (hr : ∀ (H : Hp) (rs : List (V × T)) (v1 v2 : V) (d1 d2 : D) (t : T) (Q : VK),
    Roots G.Z H ((v2, .fz d2) :: (v1, .fz d1) :: rs) → g d1 d2 = some t → (∀ H' v, Roots G.Z H' ((v, t) :: rs) → Q v H') → r v1 v2 H Q)
    (σ : L2.St) (H : Hp) (Q : VK) (h : rdE G W (fBin g fa fb) σ H Q) : tOp r (rdE G W fa) (rdE G W fb) σ H Q := by
  obtain ⟨env, ex, rel, h⟩ := h
  refine ⟨env, ex, rel, ?_⟩
  unfold fBin at h
  cases e1 : fa env with
  | no => rw [e1] at h; exact h
  | ex x e => rw [e1] at h; exact h
  | ok t1 e =>
    rw [e1] at h
    intro H1 v1 r1
    refine ⟨e, _, r1, ?_⟩
    have h : Aft (XOk G W σ ex) _ ((fb e).bind _) := h
    cases e2 : fb e with
    | no => rw [e2] at h; exact h
    | ex x e' => rw [e2] at h; exact XOk.more (show XOk G W σ ex e' x from h) [_]
    | ok t2 e' =>
      rw [e2] at h
      intro H2 v2 r2
      have h : Aft (XOk G W σ ex) _ (ofO e' (g (frz t1) (frz t2))) := h
      cases e3 : g (frz t1) (frz t2) with
      | none => rw [e3] at h; exact h.elim
      | some t =>
        rw [e3] at h
        have r3 : Rel G H2 σ e' ((v2, .fz (frz t2)) :: (v1, .fz (frz t1)) :: ex) := (((r2.freeze).perm (.swap ..)).freeze).perm (.swap ..)
        have ro := Rel.out (l := [(v2, .fz (frz t2)), (v1, .fz (frz t1))]) r3
        exact hr H2 _ v1 v2 _ _ t Q ro e3 fun H' v q => h H' v (r3.back1 q)
theorem de_op {op : Operator} {g : D → D → Option T} (ho : OpD X G.Z (binaryOp op) g) (ha : DE X G W a fa) (hb : DE X G W b fb) : DE X G W (.BinOp a op b pos) (fBin g fa fb) := fun gd => by
  obtain ⟨r, h1, h2⟩ := ho
  exact (pe_op h1 (ha gd) (hb gd)).imp (rd_bin h2)
theorem de_cmp {op : CmpOp} {g : D → D → Option T} (ho : OpD X G.Z (compareOp op) g) (ha : DE X G W a fa) (hb : DE X G W b fb) (h1 : behindInMarks op b = false := by first | exact nomark _ | rfl) : DE X G W (.Compare a [op] [b] pos) (fBin g fa fb) := fun gd => by
  obtain ⟨r, h2, h3⟩ := ho
  exact (pe_cmpR h2 (ha gd) (hb gd) h1).imp (rd_bin h3)
end
end DL

set_option maxHeartbeats 4000000
namespace DL
open PySem PySem.Spec PyProof.Rows L2
section
variable {X : Cx} {G : Sg} {W : WX} {a b c : Expr} {fa fb fc : M T} {ga gb gc : M Bool} {pos : Pos}
/-! ### one step behind an expression -/
theorem rd_then {α : Type} {f : M T} {k : T → M α} {σ : L2.St} {ex : List (V × T)} {env : Env} {H : Hp} {P : α → Env → Prop} {Q : VK} (r : Rel G H σ env ex) (h : Aft (XOk G W σ ex) P ((f env).bind k))
    (hk : ∀ H' v t e, Rel G H' σ e ((v, t) :: ex) → Aft (XOk G W σ ex) P (k t e) → Q v H') : rdE G W f σ H Q := by
  refine ⟨env, ex, r, ?_⟩
  cases e1 : f env with
  | no => rw [e1] at h; exact h
  | ex x e => rw [e1] at h; exact h
  | ok t e => rw [e1] at h; exact fun H' v r' => hk H' v t e r' h
theorem rd_thenT {α : Type} {f : M Bool} {k : Bool → M α} {σ : L2.St} {ex : List (V × T)} {env : Env} {H : Hp} {P : α → Env → Prop} {Q : Bool → Hp → Prop} (r : Rel G H σ env ex) (h : Aft (XOk G W σ ex) P ((f env).bind k))
    (hk : ∀ H' v e, Rel G H' σ e ex → Aft (XOk G W σ ex) P (k v e) → Q v H') : rdT G W f σ H Q := by
  refine ⟨env, ex, r, ?_⟩
  cases e1 : f env with
  | no => rw [e1] at h; exact h
  | ex x e => rw [e1] at h; exact h
  | ok t e => rw [e1] at h; exact fun H' r' => hk H' t e r' h
theorem aft_more {α : Type} {σ : L2.St} {ex l : List (V × T)} {P P' : α → Env → Prop} {r : R α} (h : Aft (XOk G W σ ex) P r) (k : ∀ a e, P a e → P' a e) : Aft (XOk G W σ (l ++ ex)) P' r := by
  cases r with
  | no => exact h
  | ex x e => exact XOk.more (show XOk G W σ ex e x from h) l
  | ok t e => exact k t e h
/-! ### tests -/
@[simp] def truD : D → Option Bool
  | .non => some false
  | .bl b => some b
  | .int i => some (i != 0)
  | .str y => if y.length ≤ sizeLine then some ((y.length : Int) != 0) else none
  | .lst xs => some (!xs.isEmpty)
  | .tup xs => some (!xs.isEmpty)
  | .dic ks _ => some (!ks.isEmpty)
  | _ => none
@[simp] def ofB (env : Env) : Option Bool → R Bool
  | some t => .ok t env
  | none => .no
@[simp] def fTest (f : M T) (env : Env) : R Bool := (f env).bind fun t e => ofB e (truD (frz t))
theorem isEmpty_len {α β : Type} {xs : List α} {ys : List β} (h : xs.length = ys.length) : xs.isEmpty = ys.isEmpty := by
  cases xs <;> cases ys <;> first | rfl | cases h
theorem truD_ok {Z : Wd} {H : Hp} {v : V} {d : D} {b : Bool} (r : Rp Z H v d) (h : truD d = some b) : TruV Z.K v H b := by
  cases d with
  | non => cases r; exact (Option.some.inj h).symm
  | bl => cases r; exact (Option.some.inj h).symm
  | int => cases r; exact (Option.some.inj h).symm
  | str y =>
    cases r
    have h : (if y.length ≤ sizeLine then some ((y.length : Int) != 0) else none) = some b := h
    split at h
    · rename_i hl
      exact ⟨hl, (Option.some.inj h).symm⟩
    · cases h
  | lst xs =>
    obtain ⟨p, vs, rfl, q, r⟩ := r
    exact .inl ⟨vs, q, by rw [isEmpty_len r.length]; exact (Option.some.inj h).symm⟩
  | tup xs =>
    obtain ⟨p, vs, rfl, q, r⟩ := r
    exact .inr (.inl ⟨vs, q, by rw [isEmpty_len r.length]; exact (Option.some.inj h).symm⟩)
  | dic ks xs =>
    obtain ⟨p, kvs, rfl, q, r, _⟩ := r
    refine .inr (.inr ⟨kvs, q, ?_⟩)
    have e := r.length
    rw [List.length_map] at e
    rw [isEmpty_len e]
    exact (Option.some.inj h).symm
  | _ => cases h
theorem dt_val (ha : DE X G W a fa) (he : ∀ whole, isTrue a X.env whole = (do let v ← whole; standAt a.pos; holding [v] (truthy v)) := by intro _; rfl) : DT X G W a (fTest fa) := fun g =>
  (pt_truth (ha g) he).imp fun σ H Q ⟨env, ex, r, h⟩ => rd_then r h fun H' v t e r' h' => by
    cases e1 : truD (frz t) with
    | none => rw [e1] at h'; exact h'.elim
    | some b =>
      rw [e1] at h'
      exact ⟨b, by rw [← g.hK]; exact truD_ok r'.freeze.out1.fz e1, h' H' r'.drop⟩
/-- a comparison as a test -/
@[simp] def fTestB (f : M T) (env : Env) : R Bool := (f env).bind fun t e => match t with | .fz (.bl b) => .ok b e | _ => .no
theorem dt_cmp {op : CmpOp} {g : D → D → Option T} (ho : OpD X G.Z (compareOp op) g) (ha : DE X G W a fa) (hb : DE X G W b fb) (h1 : behindInMarks op b = false := by first | exact nomark _ | rfl) : DT X G W (.Compare a [op] [b] pos) (fTestB (fBin g fa fb)) := fun gd => by
  obtain ⟨r, h2, h3⟩ := ho
  refine (pt_cmpR h2 (ha gd) (hb gd) h1).imp fun σ H Q ⟨env, ex, rel, h⟩ => ?_
  refine rd_bin h3 σ H _ (rd_then rel h fun H' v t e r' h' => ?_)
  split at h'
  · rename_i k
    have ev : v = .bl k := r'.out1.fz
    exact ⟨k, ev, h' H' r'.drop⟩
  · exact h'.elim
@[simp] def fAnd (f g : M Bool) (env : Env) : R Bool := (f env).bind fun b e => if b = true then g e else .ok false e
@[simp] def fOr (f g : M Bool) (env : Env) : R Bool := (f env).bind fun b e => if b = true then .ok true e else g e
@[simp] def fNot (f : M Bool) (env : Env) : R Bool := (f env).bind fun b e => .ok (!b) e
def DW (X : Cx) (G : Sg) (W : WX) (e : Expr) (f : M Bool) : Prop := Good X G W → PW X e (rdT G W f)
theorem _root_.L2.PW.imp {X : Cx} {e : Expr} {t u : TT} (h : PW X e t) (k : ∀ σ H Q, u σ H Q → t σ H Q) : PW X e u := ⟨fun wh pins s σ H Q I q => h.run wh pins s σ H Q I (k σ H Q q)⟩
theorem DW.dt (h : DW X G W a ga) : DT X G W a ga := fun g => (h g).pt
variable {rest : List Expr}
theorem dw_and1 (ha : DT X G W a ga) : DW X G W (.BoolOp .And [a] pos) ga := fun g => pw_and1 (ha g)
theorem dw_or1 (ha : DT X G W a ga) : DW X G W (.BoolOp .Or [a] pos) ga := fun g => pw_or1 (ha g)
theorem dw_and (ha : DT X G W a ga) (hb : DW X G W (.BoolOp .And (b :: rest) pos) gb) : DW X G W (.BoolOp .And (a :: b :: rest) pos) (fAnd ga gb) := fun g =>
  (pw_and (ha g) (hb g)).imp fun σ H Q ⟨env, ex, r, h⟩ => rd_thenT r h fun H' v e r' h' => by
    cases v with
    | true => exact ⟨e, ex, r', h'⟩
    | false => exact h' H' r'
theorem dw_or (ha : DT X G W a ga) (hb : DW X G W (.BoolOp .Or (b :: rest) pos) gb) : DW X G W (.BoolOp .Or (a :: b :: rest) pos) (fOr ga gb) := fun g =>
  (pw_or (ha g) (hb g)).imp fun σ H Q ⟨env, ex, r, h⟩ => rd_thenT r h fun H' v e r' h' => by
    cases v with
    | true => exact h' H' r'
    | false => exact ⟨e, ex, r', h'⟩
theorem dt_not (ha : DT X G W a ga) : DT X G W (.UnaryOp .Not a pos) (fNot ga) := fun g =>
  (pt_not (ha g)).imp fun σ H Q ⟨env, ex, r, h⟩ => rd_thenT r h fun H' v e r' h' => h' H' r'
/-- .. as values (bools) -/
@[simp] def fAndV (f g : M T) (env : Env) : R T := (f env).bind fun t e => match t with | .fz (.bl b) => (if b = true then g e else .ok (.fz (.bl false)) e) | _ => .no
@[simp] def fOrV (f g : M T) (env : Env) : R T := (f env).bind fun t e => match t with | .fz (.bl b) => (if b = true then .ok (.fz (.bl true)) e else g e) | _ => .no
@[simp] def fNotV (f : M T) (env : Env) : R T := (f env).bind fun t e => match t with | .fz (.bl b) => .ok (.fz (.bl !b)) e | _ => .no
theorem Rel.bl {H : Hp} {σ : L2.St} {env : Env} {ex : List (V × T)} {H' : Hp} {ex0 : List (V × T)} (r : Rel G H σ env ex) (b : Bool) : Rel G H σ env ((.bl b, .fz (.bl b)) :: ex) := r.back1 (Roots.add r.2.2 fun _ => rfl)
theorem rd_of {f : M T} {σ : L2.St} {ex : List (V × T)} {env : Env} {H : Hp} {P : T → Env → Prop} {Q : VK} (l : List (V × T)) (r : Rel G H σ env (l ++ ex)) (h : Aft (XOk G W σ ex) P (f env))
    (hk : ∀ H' v t e, Rel G H' σ e ((v, t) :: (l ++ ex)) → P t e → Q v H') : rdE G W f σ H Q :=
  ⟨env, l ++ ex, r, aft_more h fun t e p H' v r' => hk H' v t e r' p⟩
theorem Rel.drop2 {H : Hp} {σ : L2.St} {env : Env} {ex : List (V × T)} {r q : V × T} (h : Rel G H σ env (r :: q :: ex)) : Rel G H σ env (r :: ex) := (h.perm (.swap ..)).drop
theorem de_one {op} (h : DE X G W a fa) : DE X G W (.BoolOp op [a] pos) fa := fun g => pe_one (h g)
theorem de_and (ha : DE X G W a fa) (hb : DE X G W (.BoolOp .And (b :: rest) pos) fb) : DE X G W (.BoolOp .And (a :: b :: rest) pos) (fAndV fa fb) := fun g =>
  (pe_and (ha g) (hb g)).imp fun σ H Q ⟨env, ex, r, h⟩ => rd_then r h fun H' v t e r' h' => by
    split at h'
    · rename_i k
      have ev : v = .bl k := r'.out1.fz
      refine ⟨k, ev, ?_⟩
      cases k with
      | true => exact rd_of [_] r' h' fun H2 w t e r2 p => p H2 w r2.drop2
      | false =>
        subst ev
        exact h' H' _ r'
    · exact h'.elim
theorem de_or (ha : DE X G W a fa) (hb : DE X G W (.BoolOp .Or (b :: rest) pos) fb) : DE X G W (.BoolOp .Or (a :: b :: rest) pos) (fOrV fa fb) := fun g =>
  (pe_or (ha g) (hb g)).imp fun σ H Q ⟨env, ex, r, h⟩ => rd_then r h fun H' v t e r' h' => by
    split at h'
    · rename_i k
      have ev : v = .bl k := r'.out1.fz
      refine ⟨k, ev, ?_⟩
      cases k with
      | false => exact rd_of [_] r' h' fun H2 w t e r2 p => p H2 w r2.drop2
      | true =>
        subst ev
        exact h' H' _ r'
    · exact h'.elim
theorem de_not (ha : DE X G W a fa) : DE X G W (.UnaryOp .Not a pos) (fNotV fa) := fun g =>
  (pe_not (ha g)).imp fun σ H Q ⟨env, ex, r, h⟩ => rd_then r h fun H' v t e r' h' => by
    split at h'
    · rename_i k
      have ev : v = .bl k := r'.out1.fz
      refine ⟨k, ev, ?_⟩
      exact h' H' _ (r'.drop.back1 (Roots.add r'.drop.2.2 fun _ => rfl))
    · exact h'.elim
@[simp] def fIf (c : M Bool) (f g : M T) (env : Env) : R T := (c env).bind fun b e => if b = true then f e else g e
theorem de_if (hc : DT X G W c gc) (ha : DE X G W a fa) (hb : DE X G W b fb) : DE X G W (.IfExp c a b pos) (fIf gc fa fb) := fun g =>
  (pe_ifExp (hc g) (ha g) (hb g)).imp fun σ H Q ⟨env, ex, r, h⟩ => rd_thenT r h fun H' v e r' h' => by
    cases v with
    | true => exact ⟨e, ex, r', h'⟩
    | false => exact ⟨e, ex, r', h'⟩
/-! ### unary -/
def UnD (X : Cx) (Z : Wd) (f : Value → Sem Value) (g : D → Option T) : Prop := ∃ r, UnR X f r ∧ ∀ (H : Hp) (rs : List (V × T)) (v : V) (d : D) (t : T) (Q : VK),
  Roots Z H ((v, .fz d) :: rs) → g d = some t → (∀ H' v, Roots Z H' ((v, t) :: rs) → Q v H') → r v H Q
@[simp] def fUn (g : D → Option T) (f : M T) (env : Env) : R T := (f env).bind fun a e => ofO e (g (frz a))
theorem de_un {op : UnaryOp} {g : D → Option T} (ho : UnD X G.Z (unaryOp op) g) (ha : DE X G W a fa) : DE X G W (.UnaryOp op a pos) (fUn g fa) := fun gd => by
  obtain ⟨r, h1, h2⟩ := ho
  refine (pe_un h1 (ha gd)).imp fun σ H Q ⟨env, ex, rel, h⟩ => rd_then rel h fun H' v t e r' h' => ?_
  cases e1 : g (frz t) with
  | none => rw [e1] at h'; exact h'.elim
  | some t2 =>
    rw [e1] at h'
    exact h2 H' _ v _ t2 Q r'.freeze.out1 e1 fun H2 w q => h' H2 w (r'.back1 q)
/-! ### arguments -/
@[simp] def fNil (env : Env) : R (List T) := .ok [] env
@[simp] def fCons (f : M T) (g : M (List T)) (env : Env) : R (List T) := (f env).bind fun t e => (g e).bind fun ts e' => .ok (t :: ts) e'
/-- a slot handed over: its tree is moved -/
@[simp] def fMove (i : Nat) (g : M (List T)) (env : Env) : R (List T) := match env[i]? with
  | some (some t) => (g (env.set i none)).bind fun ts e' => .ok (t :: ts) e'
  | _ => .no
variable {e : Expr} {es : List Expr} {src : List (Option Nat)} {fs : M (List T)}
theorem da_nil : DA X G W [] [] fNil := fun g => pa_nil.imp fun σ H Q ⟨env, ex, r, h⟩ => h H [] rfl rfl (fun k j e => by simp at e) r
theorem aft_bind {α β : Type} {xw : Env → Ex → Prop} {P : β → Env → Prop} {r : R α} {k : α → Env → R β} (h : Aft xw P (r.bind k)) : Aft xw (fun a e => Aft xw P (k a e)) r := by
  cases r <;> exact h
theorem da_cons (ha : DE X G W e fa) (hr : DA X G W es src fs) (hs : starEach (e :: es) X.env = (false, eval e X.env) :: starEach es X.env := by rfl) : DA X G W (e :: es) (none :: src) (fCons fa fs) := fun g =>
  (pa_cons (ha g) (hr g) hs).imp fun σ H Q ⟨env, ex, r, h⟩ => rd_then r h fun H' v t e r' h' => by
    refine ⟨e, (v, t) :: ex, r', aft_more (l := [(v, t)]) (aft_bind h') fun ts e2 p H2 vs hl hs hsrc r2 => ?_⟩
    refine p H2 (v :: vs) (by simpa using hl) (by simpa using hs) (fun k j ek => ?_) ?_
    · cases k with
      | zero => cases ek
      | succ k => exact hsrc k j ek
    · exact r2.perm List.perm_middle
theorem da_move {i : Nat} {x : Str} {pos : Pos} (hN : X.N[i]? = some x) (hv : Vis X.env.scope x) (hr : DA X G W es src fs) (hs : starEach (.Name x pos :: es) X.env = (false, eval (.Name x pos) X.env) :: starEach es X.env := by rfl)
    (hd : (x == ("__debug__" : Str)) = false := by decide) (hcd : (x == ("__classdict__" : Str)) = false := by decide) : DA X G W (.Name x pos :: es) (some i :: src) (fMove i fs) := fun g =>
  (pa_cons (pe_var hN hv hd hcd) (hr g) hs).imp fun σ H Q ⟨env, ex, r, h⟩ => by
    unfold fMove at h
    split at h
    · rename_i t et
      obtain ⟨v, ev, r'⟩ := r.take et
      refine ⟨v, ev, env.set i none, (v, t) :: ex, r', aft_more (l := [(v, t)]) (aft_bind h) fun ts e2 p H2 vs hl hs hsrc r2 => ?_⟩
      refine p H2 (v :: vs) (by simpa using hl) (by simpa using hs) (fun k j ek => ?_) ?_
      · cases k with
        | zero =>
          have ek : some i = some j := Option.some.inj ek
          cases ek
          exact ⟨v, rfl, ev⟩
        | succ k => exact hsrc k j ek
      · exact r2.perm List.perm_middle
    · exact h.elim
/-! ### built-in functions by values -/
def CallD (X : Cx) (Z : Wd) (f : Value) (g : List D → Option T) : Prop := ∃ r, CallR X f r ∧ ∀ (H : Hp) (rs : List (V × T)) (vs : List V) (ds : List D) (t : T) (Q : VK),
  Roots Z H (vs.zip (ds.map T.fz) ++ rs) → vs.length = ds.length → g ds = some t → (∀ H' v, Roots Z H' ((v, t) :: rs) → Q v H') → r vs H Q
@[simp] def fCB (g : List D → Option T) (fs : M (List T)) (env : Env) : R T := (fs env).bind fun ts e => ofO e (g (frzs ts))
theorem Roots.freezes {Z : Wd} {H : Hp} : ∀ {vs : List V} {ts : List T} {rs : List (V × T)}, Roots Z H (vs.zip ts ++ rs) → Roots Z H (vs.zip ((frzs ts).map T.fz) ++ rs)
  | [], _, _, h => by simpa using h
  | _ :: _, [], _, h => by simpa [frzs] using h
  | v :: vs, t :: ts, rs, h => by
    have h1 : Roots Z H ((v, .fz (frz t)) :: (vs.zip ts ++ rs)) := Roots.freeze h
    have h2 : Roots Z H (vs.zip ts ++ ((v, .fz (frz t)) :: rs)) := h1.perm List.perm_middle.symm
    exact (Roots.freezes h2).perm List.perm_middle
theorem frzs_len : ∀ ts : List T, (frzs ts).length = ts.length
  | [] => rfl
  | _ :: ts => congrArg (· + 1) (frzs_len ts)
theorem rd_cb {g : List D → Option T} {r : List V → Hp → VK → Prop} (hr : ∀ (H : Hp) (rs : List (V × T)) (vs : List V) (ds : List D) (t : T) (Q : VK),
    Roots G.Z H (vs.zip (ds.map T.fz) ++ rs) → vs.length = ds.length → g ds = some t → (∀ H' v, Roots G.Z H' ((v, t) :: rs) → Q v H') → r vs H Q)
    (σ : L2.St) (H : Hp) (Q : VK) (h : rdE G W (fCB g fs) σ H Q) : tCB r (rdA G W src fs) σ H Q := by
  obtain ⟨env, ex, rel, h⟩ := h
  refine ⟨env, ex, rel, aft_more (l := []) (aft_bind h) fun ts e p H2 vs hl hs hsrc r2 => ?_⟩
  cases e1 : g (frzs ts) with
  | none => rw [e1] at p; exact p.elim
  | some t =>
    rw [e1] at p
    exact hr H2 _ vs _ t Q (Roots.freezes r2.out) (by rw [frzs_len]; exact hl) e1 fun H' v q => p H' v (r2.back1 q)
theorem de_callB {x : Str} {id : String} {g : List D → Option T} {p : Pos} (hc : CallD X G.Z (.builtin id) g) (hg : Gl X x) (hm : X.mg x = none) (hv : bootBuiltins x = some (.builtin id)) (ha : DA X G W (e :: es) src fs) (hn : x ≠ "__name__" := by decide) (hdb : (x == ("__debug__" : Str)) = false := by decide)
    (he : starEach (e :: es) X.env = (false, eval e X.env) :: starEach es X.env := by rfl) (hpl : (backTo pos (starEach es X.env)).any (·.1) = false := by rfl) : DE X G W (.Call (.Name x p) (e :: es) [] pos) (fCB g fs) := fun gd => by
  obtain ⟨r, h1, h2⟩ := hc
  exact (pe_callB h1 hg hm hv (ha gd) hn hdb he hpl).imp (rd_cb h2)
theorem de_callTy {x : Str} {id : String} {g : List D → Option T} {p : Pos} (hc : CallD X G.Z (.type id) g) (hg : Gl X x) (hm : X.mg x = none) (hv : bootBuiltins x = some (.type id)) (ha : DA X G W (e :: es) src fs) (hn : x ≠ "__name__" := by decide) (hdb : (x == ("__debug__" : Str)) = false := by decide)
    (he : starEach (e :: es) X.env = (false, eval e X.env) :: starEach es X.env := by rfl) (hpl : (backTo pos (starEach es X.env)).any (·.1) = false := by rfl) : DE X G W (.Call (.Name x p) (e :: es) [] pos) (fCB g fs) := fun gd => by
  obtain ⟨r, h1, h2⟩ := hc
  exact (pe_callTy h1 hg hm hv (ha gd) hn hdb he hpl).imp (rd_cb h2)
/-! ### displays -/
/-- [a, b, ..]: an owned list -/
@[simp] def fLst (fs : M (List T)) (env : Env) : R T := (fs env).bind fun ts e => if ts.length ≤ sizeLine then .ok (.lst ts) e else .no
@[simp] def fTup (fs : M (List T)) (env : Env) : R T := (fs env).bind fun ts e => if ts.length ≤ sizeLine then .ok (.fz (.tup (frzs ts))) e else .no
theorem de_lst (ha : DA X G W es src fs) : DE X G W (.List es pos) (fLst fs) := fun gd =>
  (pe_lst (ha gd)).imp fun σ H Q ⟨env, ex, rel, h⟩ => ⟨env, ex, rel, aft_more (l := []) (aft_bind h) fun ts e p H2 vs hl hs hsrc r2 => by
    split at p
    · rename_i hz
      exact ⟨by rw [hl]; exact hz, fun q nq => p _ _ (r2.back1 (Roots.newL hl r2.out nq))⟩
    · exact p.elim⟩
theorem de_tup {k : Nat} (ha : DA X G W es src fs) : DE X G W (.Tuple es k pos) (fTup fs) := fun gd =>
  (pe_tup (ha gd)).imp fun σ H Q ⟨env, ex, rel, h⟩ => ⟨env, ex, rel, aft_more (l := []) (aft_bind h) fun ts e p H2 vs hl hs hsrc r2 => by
    split at p
    · rename_i hz
      exact ⟨by rw [hl]; exact hz, fun q nq => p _ _ (r2.back1 (Roots.newT (by rw [frzs_len]; exact hl) (Roots.freezes r2.out) nq))⟩
    · exact p.elim⟩
end
end DL

set_option maxHeartbeats 4000000
namespace DL
open PySem PySem.Spec PyProof.Rows L2
inductive RS where
  | nx (e : Env) | rt (t : T) (e : Env) | bk (e : Env) | ct (e : Env) | ex (x : Ex) (e : Env) | no
abbrev MS := Env → RS
def AftS (G : Sg) (W : WX) (D : Ends) (ex : List (V × T)) : RS → Prop
  | .nx e => ∀ σ' H', Rel G H' σ' e ex → D.nx σ' H'
  | .rt t e => ∀ σ' H' v, Rel G H' σ' e ((v, t) :: ex) → D.rt v H'
  | .bk e => ∀ σ' H', Rel G H' σ' e ex → D.bk σ' H'
  | .ct e => ∀ σ' H', Rel G H' σ' e ex → D.ct σ' H'
  | .ex x e => ∀ σ', XOk G W σ' ex e x
  | .no => False
def rdS (G : Sg) (W : WX) (f : MS) : TS := fun D σ H => ∃ env ex, Rel G H σ env ex ∧ AftS G W D ex (f env)
def DS (X : Cx) (G : Sg) (W : WX) (st : Stmt) (f : MS) : Prop := Good X G W → PS X st (rdS G W f)
def DSs (X : Cx) (G : Sg) (W : WX) (sts : List Stmt) (f : MS) : Prop := Good X G W → PSs X sts (rdS G W f)
@[simp] def R.s {α : Type} (r : R α) (k : α → Env → RS) : RS := match r with
  | .ok a e => k a e
  | .ex x e => .ex x e
  | .no => .no
section
variable {X : Cx} {G : Sg} {W : WX} {e a b c : Expr} {es : List Expr} {fa fb fc : M T} {ga gb gc : M Bool} {src : List (Option Nat)} {fs : M (List T)} {pos : Pos} {st : Stmt} {sts bd : List Stmt} {f g : MS}
theorem rd_s {f : M T} {k : T → Env → RS} {σ : L2.St} {ex : List (V × T)} {env : Env} {H : Hp} {D : Ends} {Q : VK} (r : Rel G H σ env ex) (h : AftS G W D ex ((f env).s k))
    (hk : ∀ H' v t e, Rel G H' σ e ((v, t) :: ex) → AftS G W D ex (k t e) → Q v H') : rdE G W f σ H Q := by
  refine ⟨env, ex, r, ?_⟩
  cases e1 : f env with
  | no => rw [e1] at h; exact h
  | ex x e => rw [e1] at h; exact h σ
  | ok t e => rw [e1] at h; exact fun H' v r' => hk H' v t e r' h
theorem rd_sT {f : M Bool} {k : Bool → Env → RS} {σ : L2.St} {ex : List (V × T)} {env : Env} {H : Hp} {D : Ends} {Q : Bool → Hp → Prop} (r : Rel G H σ env ex) (h : AftS G W D ex ((f env).s k))
    (hk : ∀ H' t e, Rel G H' σ e ex → AftS G W D ex (k t e) → Q t H') : rdT G W f σ H Q := by
  refine ⟨env, ex, r, ?_⟩
  cases e1 : f env with
  | no => rw [e1] at h; exact h
  | ex x e => rw [e1] at h; exact h σ
  | ok t e => rw [e1] at h; exact fun H' r' => hk H' t e r' h
theorem aftS_more {D D' : Ends} {ex : List (V × T)} (l : List (V × T)) {r : RS} (h : AftS G W D ex r) (h1 : ∀ e, r = .nx e → (∀ σ H, Rel G H σ e ex → D.nx σ H) → ∀ σ H, Rel G H σ e (l ++ ex) → D'.nx σ H)
    (h2 : ∀ v H, D.rt v H → D'.rt v H) (h3 : ∀ e, r = .bk e → (∀ σ H, Rel G H σ e ex → D.bk σ H) → ∀ σ H, Rel G H σ e (l ++ ex) → D'.bk σ H) (h4 : ∀ e, r = .ct e → (∀ σ H, Rel G H σ e ex → D.ct σ H) → ∀ σ H, Rel G H σ e (l ++ ex) → D'.ct σ H) : AftS G W D' (l ++ ex) r := by
  cases r with
  | nx e => exact h1 e rfl h
  | rt t e => exact fun σ H v r => h2 v H (h σ H v ((r.perm List.perm_middle.symm).drops (l := l)))
  | bk e => exact h3 e rfl h
  | ct e => exact h4 e rfl h
  | ex x e => exact fun σ' => (h σ').more l
  | no => exact h
/-! ### blocks -/
@[simp] def fNext (env : Env) : RS := .nx env
@[simp] def fSeq (f g : MS) (env : Env) : RS := match f env with
  | .nx e => g e
  | r => r
theorem dss_nil : DSs X G W [] fNext := fun gd => pss_nil.imp fun D σ H ⟨env, ex, r, h⟩ => h σ H r
theorem dss_one (h : DS X G W st f) : DSs X G W [st] f := fun gd => pss_one (h gd)
theorem dss_cons (h1 : DS X G W st f) (h2 : DSs X G W sts g) : DSs X G W (st :: sts) (fSeq f g) := fun gd =>
  (pss_cons (h1 gd) (h2 gd)).imp fun D σ H ⟨env, ex, r, h⟩ => by
    refine ⟨env, ex, r, ?_⟩
    unfold fSeq at h
    cases e : f env with
    | nx e' => rw [e] at h; exact fun σ' H' r' => ⟨e', ex, r', h⟩
    | rt t e' => rw [e] at h; exact h
    | bk e' => rw [e] at h; exact h
    | ct e' => rw [e] at h; exact h
    | ex x e' => rw [e] at h; exact h
    | no => rw [e] at h; exact h
theorem ds_pass : DS X G W (.Pass pos) fNext := fun gd => ps_pass.imp fun D σ H ⟨env, ex, r, h⟩ => h σ H r
theorem ds_break : DS X G W (.Break pos) (fun env => .bk env) := fun gd => ps_break.imp fun D σ H ⟨env, ex, r, h⟩ => h σ H r
theorem ds_continue : DS X G W (.Continue pos) (fun env => .ct env) := fun gd => ps_continue.imp fun D σ H ⟨env, ex, r, h⟩ => h σ H r
@[simp] def fExpr (f : M T) (env : Env) : RS := (f env).s fun _ e => .nx e
theorem ds_expr (ha : DE X G W e fa) (hs : swapsWith e none pos.line X.env = pure false := by rfl) : DS X G W (.Expr e pos) (fExpr fa) := fun gd =>
  (ps_expr (ha gd) hs).imp fun D σ H ⟨env, ex, r, h⟩ => rd_s r h fun H' v t e r' h' => h' σ H' r'.drop
@[simp] def fRet (f : M T) (env : Env) : RS := (f env).s fun t e => .rt t e
theorem ds_ret (ha : DE X G W e fa) : DS X G W (.Return (some e) pos) (fRet fa) := fun gd =>
  (ps_ret (ha gd)).imp fun D σ H ⟨env, ex, r, h⟩ => rd_s r h fun H' v t e r' h' => h' σ H' v r'
theorem ds_retN : DS X G W (.Return none pos) (fun env => .rt (.fz .non) env) := fun gd =>
  ps_retN.imp fun D σ H ⟨env, ex, r, h⟩ => h σ H .non (r.back1 (Roots.add r.2.2 fun _ => rfl))
@[simp] def fIfS (c : M Bool) (f g : MS) (env : Env) : RS := (c env).s fun b e => if b = true then f e else g e
theorem ds_if (hc : DT X G W c gc) (ha : DSs X G W sts f) (hb : DSs X G W bd g) : DS X G W (.If c sts bd pos) (fIfS gc f g) := fun gd =>
  (ps_if (hc gd) (ha gd) (hb gd)).imp fun D σ H ⟨env, ex, r, h⟩ => rd_sT r h fun H' t e r' h' => by
    cases t with
    | true => exact ⟨e, ex, r', h'⟩
    | false => exact ⟨e, ex, r', h'⟩
/-! ### targets -/
/-- the slots besides vs are as they were -/
def Off (vs : List Nat) (σ σ' : L2.St) : Prop := σ'.length = σ.length ∧ ∀ i : Nat, i ∉ vs → σ'[i]? = σ[i]?
theorem Off.refl (vs : List Nat) (σ : L2.St) : Off vs σ σ := ⟨rfl, fun _ _ => rfl⟩
theorem Off.mono {vs ws : List Nat} {σ σ' : L2.St} (h : Off vs σ σ') (k : ∀ i ∈ vs, i ∈ ws) : Off ws σ σ' := ⟨h.1, fun i hi => h.2 i fun z => hi (k i z)⟩
theorem Off.trans {vs : List Nat} {σ σ' σ'' : L2.St} (h : Off vs σ σ') (k : Off vs σ' σ'') : Off vs σ σ'' := ⟨k.1.trans h.1, fun i hi => (k.2 i hi).trans (h.2 i hi)⟩
theorem Off.set {i : Nat} {σ : L2.St} {x : Option V} : Off [i] σ (σ.set i x) := ⟨by simp, fun j hj => List.getElem?_set_ne (fun z => hj (by simp [z]))⟩
def rdG (G : Sg) (vs : List Nat) (set : T → Env → Option Env) : TG := fun v σ H Q => ∃ env ex t, Rel G H σ env ((v, t) :: ex) ∧ ∃ e, set t env = some e ∧ ∀ σ' H', Off vs σ σ' → Rel G H' σ' e ex → Q σ' H'
def DG (X : Cx) (G : Sg) (W : WX) (tg : Expr) (vs : List Nat) (set : T → Env → Option Env) : Prop := Good X G W → PG X tg (rdG G vs set)
theorem _root_.L2.PG.imp {X : Cx} {e : Expr} {t u : TG} (h : PG X e t) (k : ∀ v σ H Q, u v σ H Q → t v σ H Q) : PG X e u := ⟨fun pins s σ H v x Q I rv q => h.run pins s σ H v x Q I rv (k v σ H Q q)⟩
theorem _root_.L2.PGs.imp {X : Cx} {e : List Expr} {t u : TGs} (h : PGs X e t) (k : ∀ v σ H Q, u v σ H Q → t v σ H Q) : PGs X e u := ⟨fun pins s σ H v x Q I rv q => h.run pins s σ H v x Q I rv (k v σ H Q q)⟩
@[simp] def sName (i : Nat) (t : T) (env : Env) : Option Env := some (env.set i (some t))
theorem dg_name {i : Nat} {x : Str} (hi : X.N[i]? = some x) (hx : Loc X.env.scope x) (hn : i < G.n) (ni : i ∉ G.io) (hf : X.fn x = true ∨ X.env.scope.names.lookup x = some .local := by first | exact .inl rfl | exact .inr rfl | assumption) : DG X G W (.Name x pos) [i] (sName i) := fun gd =>
  (pg_name gd.nd hi hx hf).imp fun v σ H Q ⟨env, ex, t, r, e, he, h⟩ => by
    cases he
    exact h _ H Off.set (r.store hn ni)
/-- several names, from a tuple of frozen data -/
def rdGs (G : Sg) (ws : List Nat) (set : List D → Env → Option Env) : TGs := fun vs σ H Q => ∃ env ex ds, vs.length = ds.length ∧ Rel G H σ env (vs.zip (ds.map T.fz) ++ ex) ∧ ∃ e, set ds env = some e ∧ ∀ σ' H', Off ws σ σ' → Rel G H' σ' e ex → Q σ' H'
def DGs (X : Cx) (G : Sg) (W : WX) (tg : List Expr) (ws : List Nat) (set : List D → Env → Option Env) : Prop := Good X G W → PGs X tg (rdGs G ws set)
@[simp] def sNil : List D → Env → Option Env
  | [], env => some env
  | _, _ => none
@[simp] def sCons (s : T → Env → Option Env) (ss : List D → Env → Option Env) : List D → Env → Option Env
  | d :: ds, env => (s (.fz d) env).bind fun e => ss ds e
  | [], _ => none
theorem dgs_nil : DGs X G W [] [] sNil := fun gd => pgs_nil.imp fun vs σ H Q ⟨env, ex, ds, hl, r, e, he, h⟩ => by
  cases ds with
  | nil =>
    cases vs with
    | nil =>
      cases he
      exact ⟨rfl, h σ H (Off.refl ..) r⟩
    | cons => cases hl
  | cons => cases he
theorem dgs_cons {s : T → Env → Option Env} {ss : List D → Env → Option Env} {ws us : List Nat} (h1 : DG X G W e ws s) (h2 : DGs X G W es us ss) (hs : (assignEach (e :: es) X.env).map (·.2) = assign e X.env :: (assignEach es X.env).map (·.2) := by rfl) : DGs X G W (e :: es) (ws ++ us) (sCons s ss) := fun gd =>
  (pgs_cons (h1 gd) (h2 gd) hs).imp fun vs σ H Q ⟨env, ex, ds, hl, r, e, he, h⟩ => by
    cases ds with
    | nil => cases he
    | cons d ds =>
      cases vs with
      | nil => cases hl
      | cons v vs =>
        have he : (s (.fz d) env).bind (fun e => ss ds e) = some e := he
        obtain ⟨e1, q1, q2⟩ := Option.bind_eq_some_iff.mp he
        refine ⟨v, vs, rfl, env, vs.zip (ds.map T.fz) ++ ex, .fz d, r, e1, q1, fun σ' H' o1 r' => ?_⟩
        exact ⟨e1, ex, ds, Nat.succ.inj hl, r', e, q2, fun σ2 H2 o2 r2 => h σ2 H2 ((o1.mono fun i hi => List.mem_append_left _ hi).trans (o2.mono fun i hi => List.mem_append_right _ hi)) r2⟩
@[simp] def sTup (ss : List D → Env → Option Env) (t : T) (env : Env) : Option Env := match frz t with
  | .tup ds => ss ds env
  | _ => none
theorem Rel.tup {H : Hp} {σ : L2.St} {env : Env} {ex : List (V × T)} {v : V} {ds : List D} (r : Rel G H σ env ((v, .fz (.tup ds)) :: ex)) : ∃ a vs, v = .ref a ∧ SqT G.Z.K H a vs ∧ vs.length = ds.length ∧ Rel G H σ env (vs.zip (ds.map T.fz) ++ ex) := by
  have ro := r.out1
  obtain ⟨F, _, s, ⟨f1, f2, ⟨⟨a, vs, e, q, rp⟩, e1⟩, o2, rfl⟩, n, d⟩ := ro
  subst e1
  refine ⟨a, vs, e, same_t s q, rp.length, r.back (l := vs.zip (ds.map T.fz)) ⟨F, f2, s, ?_, n, d⟩⟩
  have all : ∀ {vs : List V} {ds : List D}, Rps G.Z F vs ds → OwnR G.Z F H (vs.zip (ds.map T.fz)) [] := by
    intro vs
    induction vs with
    | nil => intro ds h; cases ds <;> rfl
    | cons v vs ih =>
      intro ds h
      cases ds with
      | nil => exact h.elim
      | cons d ds => exact ⟨[], [], ⟨h.1, rfl⟩, ih h.2, rfl⟩
  exact (all rp).append o2
theorem dg_tup {k n : Nat} {ss : List D → Env → Option Env} {ws : List Nat} (h : DGs X G W es ws ss) (hn : (assignEach es X.env).length = n := by rfl) (hst : (assignEach es X.env).findIdx? (·.1) = none := by rfl)
    (hl : ∀ ds env e, ss ds env = some e → ds.length = n) (hh : G.hot = false := by rfl) : DG X G W (.Tuple es k pos) ws (sTup ss) := fun gd =>
  (pg_tup (gd.calm hh) (h gd) hn hst).imp fun v σ H Q ⟨env, ex, t, r, e, he, h⟩ => by
    unfold sTup at he
    split at he
    · rename_i ds et
      have r2 := r.freeze
      rw [et] at r2
      obtain ⟨a, vs, ev, q, el, r3⟩ := r2.tup
      exact ⟨a, vs, ev, by rw [← gd.hK]; exact q, el.trans (hl ds env e he), env, ex, ds, el, r3, e, he, h⟩
    · cases he
/-- the numbers of names in a target -/
theorem sNil_len {ds : List D} {env e : Env} (h : sNil ds env = some e) : ds.length = 0 := by
  cases ds with
  | nil => rfl
  | cons => cases h
theorem sCons_len {s : T → Env → Option Env} {ss : List D → Env → Option Env} {n : Nat} (k : ∀ ds env e, ss ds env = some e → ds.length = n) (ds : List D) (env e : Env) (h : sCons s ss ds env = some e) : ds.length = n + 1 := by
  cases ds with
  | nil => cases h
  | cons d ds =>
    obtain ⟨e1, q1, q2⟩ := Option.bind_eq_some_iff.mp (show (s (.fz d) env).bind (fun e => ss ds e) = some e from h)
    exact congrArg (· + 1) (k ds e1 e q2)
/-! ### assignments -/
@[simp] def fAsg (f : M T) (set : T → Env → Option Env) (env : Env) : RS := (f env).s fun t e => match set t e with
  | some e' => .nx e'
  | none => .no
@[simp] def fSet (i : Nat) (f : M T) (env : Env) : RS := (f env).s fun t e => .nx (e.set i (some t))
theorem ds_asg {tg : Expr} {set : T → Env → Option Env} {ws : List Nat} (he : DE X G W e fa) (hg : DG X G W tg ws set) (hs : swapsWithSole [tg] e pos.line X.env = pure false := by rfl) (hw : swappedStores [tg] e X.env = pure none := by rfl)
    (h1 : (assignEach [tg] X.env).map (·.2) = [assign tg X.env] := by rfl) : DS X G W (.Assign [tg] e pos) (fAsg fa set) := fun gd =>
  (ps_asg (he gd) (hg gd) hs hw h1).imp fun D σ H ⟨env, ex, r, h⟩ => rd_s r h fun H' v t e r' h' => by
    cases es : set t e with
    | none => rw [es] at h'; exact h'.elim
    | some e' => rw [es] at h'; exact ⟨e, ex, t, r', e', es, fun σ' H' _ r2 => h' σ' H' r2⟩
theorem ds_set {i : Nat} {x : Str} {pos' : Pos} (hi : X.N[i]? = some x) (hx : Loc X.env.scope x) (hn : i < G.n) (ni : i ∉ G.io) (he : DE X G W e fa) (hs : swapsWith e (some (.Name x pos')) pos.line X.env = pure false := by rfl) (hf : X.fn x = true ∨ X.env.scope.names.lookup x = some .local := by first | exact .inl rfl | exact .inr rfl | assumption) :
    DS X G W (.Assign [.Name x pos'] e pos) (fSet i fa) := fun gd =>
  (ps_set gd.nd hi hx (he gd) hs hf).imp fun D σ H ⟨env, ex, r, h⟩ => rd_s r h fun H' v t e r' h' => h' _ H' (r'.store hn ni)
/-- a, b = x, y -/
@[simp] def par2 (i j : Nat) (e : Env) : List T → RS
  | [t, u] => .nx ((e.set i (some t)).set j (some u))
  | _ => .no
@[simp] def fPar (i j : Nat) (fs : M (List T)) (env : Env) : RS := (fs env).s fun ts e => par2 i j e ts
theorem ds_par {i j : Nat} {x y : Str} {px py pt : Pos} {kt k2 pt2} (hi : X.N[i]? = some x) (hj : X.N[j]? = some y) (hij : i ≠ j) (ni : i < G.n) (nj : j < G.n) (oi : i ∉ G.io) (oj : j ∉ G.io)
    (hx : X.env.scope.names.lookup x = some .local) (hy : X.env.scope.names.lookup y = some .local) (ha : DA X G W [a, b] [none, none] fs)
    (hw : swappedStores [.Tuple [.Name x px, .Name y py] kt pt] (.Tuple [a, b] k2 pt2) X.env = pure (some [x, y]) := by rfl)
    (hs : swapsWithSole [.Tuple [.Name x px, .Name y py] kt pt] (.Tuple [a, b] k2 pt2) pos.line X.env = pure false := by rfl) (hh : G.hot = false := by rfl) :
    DS X G W (.Assign [.Tuple [.Name x px, .Name y py] kt pt] (.Tuple [a, b] k2 pt2) pos) (fPar i j fs) := fun gd =>
  (ps_par (gd.calm hh) gd.nd hi hj hij hx hy (ha gd) hw hs).imp fun D σ H ⟨env, ex, r, h⟩ => by
    refine ⟨env, ex, r, ?_⟩
    unfold fPar at h
    cases e1 : fs env with
    | no => rw [e1] at h; exact h
    | ex x e => rw [e1] at h; exact h σ
    | ok ts e =>
      rw [e1] at h
      intro H' vs hl hs hsrc r'
      have h : AftS G W D ex (par2 i j e ts) := h
      rcases ts with _ | ⟨t, _ | ⟨u, _ | ⟨q, ts⟩⟩⟩
      · exact h.elim
      · exact h.elim
      · rcases vs with _ | ⟨v, _ | ⟨w, _ | ⟨q, vs⟩⟩⟩
        · cases hl
        · cases hl
        · refine ⟨v, w, rfl, h _ H' ?_⟩
          have r2 : Rel G H' σ e ((v, t) :: (w, u) :: ex) := r'
          exact (r2.store ni oi).store nj oj
        · cases hl
      · exact h.elim
/-! ### while -/
def loopW (c : M Bool) (b : MS) : Nat → Env → RS
  | 0, _ => .no
  | n + 1, env => (c env).s fun k e => if k = true then (match b e with
      | .nx e' => loopW c b n e'
      | .ct e' => loopW c b n e'
      | .bk e' => .nx e'
      | .rt t e' => .rt t e'
      | .ex x e' => .ex x e'
      | .no => .no) else .nx e
@[simp] def fWhile (fuel : Env → Nat) (c : M Bool) (b : MS) (env : Env) : RS := loopW c b (fuel env) env
theorem ds_while (fuel : Env → Nat) (hc : DT X G W c gc) (hb : DSs X G W bd f) : DS X G W (.While c bd [] pos) (fWhile fuel gc f) := fun gd =>
  (ps_while gd.own (hc gd) (hb gd)).imp fun D σ H ⟨env, ex, r, h⟩ => by
    refine ⟨fun m σ H => ∃ env, Rel G H σ env ex ∧ AftS G W D ex (loopW gc f m env), ⟨_, env, r, h⟩, ?_⟩
    rintro m σ H ⟨env, r, h⟩
    cases m with
    | zero => exact h.elim
    | succ m =>
      refine rd_sT r h fun H' k e r' h' => ?_
      cases k with
      | false => exact h' σ H' r'
      | true =>
        refine ⟨fun σ' H' => ∃ env, Rel G H' σ' env ex ∧ AftS G W D ex (loopW gc f m env), fun σ' H' q => ⟨m, Nat.lt_succ_self m, q⟩, e, ex, r', ?_⟩
        have h' : AftS G W D ex (match f e with
          | .nx e' => loopW gc f m e'
          | .ct e' => loopW gc f m e'
          | .bk e' => .nx e'
          | .rt t e' => .rt t e'
          | .ex x e' => .ex x e'
          | .no => .no) := h'
        cases e2 : f e with
        | nx e' => rw [e2] at h'; exact fun σ' H' r2 => ⟨e', r2, h'⟩
        | ct e' => rw [e2] at h'; exact fun σ' H' r2 => ⟨e', r2, h'⟩
        | bk e' => rw [e2] at h'; exact h'
        | rt t e' => rw [e2] at h'; exact h'
        | ex x e' => rw [e2] at h'; exact h'
        | no => rw [e2] at h'; exact h'
/-! ### what is walked -/
structure DWalk (Z : Wd) (J : It) (ks : List (V × T)) (ds : List D) : Prop where
  go : ∀ (i : Nat) (H : Hp) (rs : List (V × T)), i < ds.length → Roots Z H (ks ++ rs) → J.go i H
  stop : ∀ (H : Hp) (rs : List (V × T)), Roots Z H (ks ++ rs) → J.stop ds.length H
  yld : ∀ (i : Nat) (H H' : Hp) (x : V) (rs : List (V × T)) (d : D), ds[i]? = some d → Roots Z H (ks ++ rs) → J.yld i H x H' → Roots Z H' ((x, .fz d) :: (ks ++ rs))
def rdI (G : Sg) (W : WX) (f : M (List D)) : TI := fun σ H R => ∃ env ex, Rel G H σ env ex ∧
  Aft (XOk G W σ ex) (fun ds e => ∀ H' J ks, DWalk G.Z J ks ds → Rel G H' σ e (ks ++ ex) → R J H') (f env)
def DI (X : Cx) (G : Sg) (W : WX) (tg e : Expr) (f : M (List D)) : Prop := Good X G W → PI X tg e (rdI G W f)
theorem _root_.L2.PI.imp {X : Cx} {tg e : Expr} {t u : TI} (h : PI X tg e t) (k : ∀ σ H Q, u σ H Q → t σ H Q) : PI X tg e u := ⟨fun pins s σ H Q I q => h.run pins s σ H Q I (k σ H Q q)⟩
theorem _root_.L2.PI.or {X : Cx} {tg e : Expr} {t u : TI} (h1 : PI X tg e t) (h2 : PI X tg e u) : PI X tg e (fun σ H R => t σ H R ∨ u σ H R) := ⟨fun pins s σ H Q I q => q.elim (h1.run pins s σ H Q I) (h2.run pins s σ H Q I)⟩
def loopF (set : T → Env → Option Env) (b : MS) : List D → Env → RS
  | [], env => .nx env
  | d :: ds, env => match set (.fz d) env with
    | none => .no
    | some e => match b e with
      | .nx e' => loopF set b ds e'
      | .ct e' => loopF set b ds e'
      | .bk e' => .nx e'
      | .rt t e' => .rt t e'
      | .ex x e' => .ex x e'
      | .no => .no
@[simp] def fFor (fi : M (List D)) (set : T → Env → Option Env) (b : MS) (env : Env) : RS := (fi env).s fun ds e => loopF set b ds e
theorem ds_for {tg iter : Expr} {fi : M (List D)} {set : T → Env → Option Env} {ws : List Nat} (hi : DI X G W tg iter fi) (hg : DG X G W tg ws set) (hb : DSs X G W bd f) (hs : ∀ x, foldedSetIterable iter X.env x = pure x := by intro _; rfl) (hh : G.hot = false := by rfl) : DS X G W (.For tg iter bd [] pos) (fFor fi set f) := fun gd =>
  (ps_for gd.own (gd.calm hh) (hi gd) (hg gd) (hb gd) hs).imp fun D σ H ⟨env, ex, r, h⟩ => by
    refine ⟨env, ex, r, ?_⟩
    unfold fFor at h
    cases e1 : fi env with
    | no => rw [e1] at h; exact h
    | ex x e => rw [e1] at h; exact h σ
    | ok ds e =>
      rw [e1] at h
      intro H' J ks w r'
      refine ⟨fun i m σ H => i ≤ ds.length ∧ m = ds.length - i ∧ ∃ env, Rel G H σ env (ks ++ ex) ∧ AftS G W D ex (loopF set f (ds.drop i) env), ⟨_, Nat.zero_le _, rfl, e, r', h⟩, ?_⟩
      rintro i m σ H ⟨hi, rfl, env, r, h⟩
      by_cases hlt : i < ds.length
      · have ed : ds[i]? = some ds[i] := List.getElem?_eq_getElem hlt
        rw [List.drop_eq_getElem_cons hlt] at h
        refine .inr ⟨w.go i H _ hlt r.out, fun σ' H' => ∃ env, Rel G H' σ' env (ks ++ ex) ∧ AftS G W D ex (loopF set f (ds.drop (i + 1)) env), fun σ' H' q => ⟨ds.length - (i + 1), by omega, hlt, rfl, q⟩, fun x H1 y => ?_⟩
        have r1 : Rel G H1 σ env ((x, .fz ds[i]) :: (ks ++ ex)) := r.back (l := (x, .fz ds[i]) :: ks) (w.yld i H H1 x _ _ ed r.out y)
        have h : AftS G W D ex (match set (.fz ds[i]) env with
          | none => .no
          | some e => match f e with
            | .nx e' => loopF set f (ds.drop (i + 1)) e'
            | .ct e' => loopF set f (ds.drop (i + 1)) e'
            | .bk e' => .nx e'
            | .rt t e' => .rt t e'
            | .ex x e' => .ex x e'
            | .no => .no) := h
        cases e2 : set (.fz ds[i]) env with
        | none => rw [e2] at h; exact h.elim
        | some env2 =>
          rw [e2] at h
          refine ⟨env, ks ++ ex, .fz ds[i], r1, env2, e2, fun σ2 H2 _ r2 => ⟨env2, ks ++ ex, r2, ?_⟩⟩
          have h : AftS G W D ex (match f env2 with
            | .nx e' => loopF set f (ds.drop (i + 1)) e'
            | .ct e' => loopF set f (ds.drop (i + 1)) e'
            | .bk e' => .nx e'
            | .rt t e' => .rt t e'
            | .ex x e' => .ex x e'
            | .no => .no) := h
          cases e3 : f env2 with
          | nx e' => rw [e3] at h; exact fun σ' H' r2 => ⟨e', r2, h⟩
          | ct e' => rw [e3] at h; exact fun σ' H' r2 => ⟨e', r2, h⟩
          | bk e' => rw [e3] at h; exact fun σ' H' r2 => h σ' H' r2.drops
          | rt t e' => rw [e3] at h; exact fun σ H v r => h σ H v ((r.perm List.perm_middle.symm).drops (l := ks))
          | ex x e' => rw [e3] at h; exact fun σ' => (h σ').more ks
          | no => rw [e3] at h; exact h
      · have ei : i = ds.length := by omega
        subst ei
        rw [List.drop_length] at h
        exact .inl ⟨w.stop H _ r.out, h σ H r.drops⟩
end
end DL

set_option maxHeartbeats 4000000
namespace DL
open PySem PySem.Spec PyProof.Rows L2
/-! ### defs -/
theorem perm3 {α : Type} (a b c : List α) : (a ++ (b ++ c)).Perm (b ++ (a ++ c)) := by
  have h : ((a ++ b) ++ c).Perm ((b ++ a) ++ c) := List.perm_append_comm.append_right c
  rw [List.append_assoc, List.append_assoc] at h
  exact h
theorem Roots.drops {Z : Wd} {H : Hp} : ∀ {q rs : List (V × T)}, Roots Z H (q ++ rs) → Roots Z H rs
  | [], _, h => h
  | _ :: q, _, h => Roots.drops (q := q) h.drop
inductive RF where
  | ok (t : T) (ts : List T) | ex (x : Ex) (ts : List T) | no
abbrev Mir := List T → RF
def ioV (io : List Nat) (vs : List V) : List V := io.map fun k => vs.getD k .non
def XF (Z : Wd) (E : XK) (rs : List (V × T)) (x : Ex) : Prop := match x.d with
  | none => ∀ H', Roots Z H' rs → E (.ref (Z.C x.c)) none H'
  | some p => ∀ H' dx, Roots Z H' ((.ref dx, .fz (.xd x.c p.1 p.2)) :: rs) → E (.ref (Z.C x.c)) (some dx) H'
def AftF (Z : Wd) (Q : VK) (E : XK) (io : List Nat) (vs : List V) (ex : List (V × T)) : RF → Prop
  | .ok t us => us.length = io.length ∧ ∀ H' v, Roots Z H' ((v, t) :: ((ioV io vs).zip us ++ ex)) → Q v H'
  | .ex x us => us.length = io.length ∧ XF Z E ((ioV io vs).zip us ++ ex) x
  | .no => False
def spOf (Z : Wd) (n : Nat) (io : List Nat) (m : Mir) : Sp := fun vs H Q E => ∃ ts ex, vs.length = n ∧ ts.length = n ∧ Roots Z H (vs.zip ts ++ ex) ∧ AftF Z Q E io vs ex (m ts)
@[simp] def outs (io : List Nat) (e : Env) : Option (List T) := match io with
  | [] => some []
  | k :: io => match e[k]? with
    | some (some t) => (outs io e).map (t :: ·)
    | _ => none
@[simp] def finF (io : List Nat) : RS → RF
  | .nx e => match outs io e with | some us => .ok (.fz .non) us | none => .no
  | .rt t e => match outs io e with | some us => .ok t us | none => .no
  | .ex x e => match outs io e with | some us => .ex x us | none => .no
  | _ => .no
@[simp] def startE (n : Nat) (ts : List T) : Env := ts.map some ++ List.replicate (n - ts.length) none
@[simp] def mirOf (n : Nat) (io : List Nat) (f : MS) (ts : List T) : RF := finF io (f (startE n ts))
theorem slots_start {vs : List V} : ∀ {ts : List T} {N : List Str}, vs.length = ts.length → slots (start N vs) (startE N.length ts) = vs.zip ts := by
  intro ts N h
  unfold L2.start startE
  rw [h]
  have rep : ∀ k, slots (List.replicate k none) (List.replicate k none) = [] := by
    intro k
    induction k with
    | zero => rfl
    | succ k ih => exact ih
  induction vs generalizing ts with
  | nil =>
    cases ts with
    | nil => exact rep _
    | cons => cases h
  | cons v vs ih =>
    cases ts with
    | nil => cases h
    | cons t ts =>
      have h' : vs.length = ts.length := Nat.succ.inj h
      have gen : ∀ k, slots (vs.map some ++ List.replicate k none) (ts.map some ++ List.replicate k none) = vs.zip ts := by
        intro k
        clear ih h
        induction vs generalizing ts with
        | nil =>
          cases ts with
          | nil => exact rep k
          | cons => cases h'
        | cons w vs ih2 =>
          cases ts with
          | nil => cases h'
          | cons u ts => exact congrArg ((w, u) :: ·) (ih2 ts (Nat.succ.inj h'))
      exact congrArg ((v, t) :: ·) (gen _)
theorem fit_start {vs : List V} {ts : List T} {N : List Str} (h : vs.length = ts.length) (hn : ts.length ≤ N.length) : Fit (start N vs) (startE N.length ts) ∧ (startE N.length ts).length = N.length := by
  unfold L2.start startE
  refine ⟨⟨by simp [h], fun i t e => ?_⟩, by simp; omega⟩
  by_cases hi : i < ts.length
  · have hv : i < vs.length := by omega
    refine ⟨vs[i], ?_⟩
    rw [List.getElem?_append_left (by simpa using hv), List.getElem?_map, List.getElem?_eq_getElem hv]
    rfl
  · rw [List.getElem?_append_right (by simpa using hi), List.getElem?_replicate] at e
    split at e <;> cases e
section
variable {G : Sg} {H : Hp} {σ : L2.St} {e : Env} {ex : List (V × T)}
theorem Rel.outs : ∀ {io : List Nat} {us : List T} {vs : List V} {e : Env} {ex : List (V × T)}, Rel G H σ e ex → io.Nodup → outs io e = some us → vs.length = io.length → (∀ (k j : Nat), io[k]? = some j → ∃ v, vs[k]? = some v ∧ σ[j]? = some (some v)) → ∃ e', Rel G H σ e' (vs.zip us ++ ex)
  | [], us, vs, e, ex, r, _, h, hl, _ => by
    cases vs with
    | nil => exact ⟨e, r⟩
    | cons => cases hl
  | k :: io, us, vs, e, ex, r, nd, h, hl, hv => by
    cases vs with
    | nil => cases hl
    | cons v vs =>
      unfold DL.outs at h
      split at h
      · rename_i t et
        obtain ⟨us', h1, rfl⟩ := Option.map_eq_some_iff.mp h
        obtain ⟨v', ev, r1⟩ := r.take et
        obtain ⟨v2, e2, e3⟩ := hv 0 k rfl
        have e2 : v = v2 := Option.some.inj e2
        subst e2
        rw [ev] at e3
        cases e3
        obtain ⟨nk, nd'⟩ := List.nodup_cons.mp nd
        have same : DL.outs io (e.set k none) = DL.outs io e := by
          clear h1 hv hl h nd
          induction io with
          | nil => rfl
          | cons j io ih =>
            have hj : k ≠ j := fun z => nk (by rw [z]; exact List.mem_cons_self ..)
            unfold DL.outs
            rw [List.getElem?_set_ne hj, ih (fun z => nk (List.mem_cons_of_mem _ z)) (List.nodup_cons.mp nd').2]
        obtain ⟨e', r2⟩ := Rel.outs (io := io) (us := us') (vs := vs) r1 nd' (same.trans h1) (Nat.succ.inj hl) fun k j ek => hv (k + 1) j ek
        exact ⟨e', r2.perm List.perm_middle⟩
      · cases h
end
theorem ioV_get {io : List Nat} {vs : List V} {N : List Str} (hb : ∀ k ∈ io, k < vs.length) (k j : Nat) (h : io[k]? = some j) : ∃ v, (ioV io vs)[k]? = some v ∧ (start N vs)[j]? = some (some v) := by
  have hj := hb j (List.mem_of_getElem? h)
  refine ⟨vs[j], ?_, ?_⟩
  · unfold ioV
    rw [List.getElem?_map, h]
    show some (vs.getD j .non) = some vs[j]
    rw [List.getD_eq_getElem?_getD, List.getElem?_eq_getElem hj]
    rfl
  · unfold L2.start
    rw [List.getElem?_append_left (by simpa using hj), List.getElem?_map, List.getElem?_eq_getElem hj]
    rfl
section
variable {P : Program} {w : World} {K : PySem.W.Frag} {mg : Str → Option Value} {base : Heap}
/-- THE RULE for a def by its body's function -/
theorem fn_d {x qual : Str} {st : Stmt} {f : Addr} {fd : FuncData} {N ps : List Str} {k : Nat} {C : Nat → Addr} {io : List Nat} {fb : MS} (F : Fun K x qual st f fd) (S : FnScope N ps (defScope st)) (hio : io.Nodup) (hib : ∀ j ∈ io, j < ps.length)
    (hbody : ∀ (X : Cx) (G : Sg) (W : WX), (∃ (cdv : Value) (A : Around) (outer : List PySem.Env) (s : Shared) (H : Hp) (E : XK), X = cxOf (L2.CX P w) P w K mg base N qual (defScope st) f cdv A outer s H E ∧ Room k X.A) → G.Z = ⟨K, C⟩ → G.io = io → G.n = N.length → G.hot = false → DSs X G W (defBody st) fb) :
    FnOk P w K mg base (L2.CX P w) (k + 1) f fd ps (spOf ⟨K, C⟩ ps.length io (mirOf N.length io fb)) := by
  refine F.okX S (fun vs H Q E h => ?_) (fun cdv A outer s H vs Q E hr h => ?_)
  · obtain ⟨ts, ex, e, _⟩ := h
    exact e
  · obtain ⟨ts, ex, hl, ht, ro, h⟩ := h
    have hpl : ps.length ≤ N.length := by have := congrArg List.length S.pre; rw [List.length_take] at this; omega
    let G : Sg := ⟨⟨K, C⟩, io, start N vs, N.length, false⟩
    let W : WX := fun cls d σ H => E cls d H
    let X := cxOf (L2.CX P w) P w K mg base N qual (defScope st) f cdv A outer s H E
    have gd : Good X G W := ⟨rfl, takes_of (X := X) rfl rfl rfl rfl, fun _ => rfl, S.nd, passes_of (X := X) rfl⟩
    refine ⟨rdS G W fb, hbody X G W ⟨cdv, A, outer, s, H, E, rfl, hr⟩ rfl rfl rfl rfl gd, ?_⟩
    obtain ⟨ft, fl⟩ := fit_start (N := N) (hl.trans ht.symm) (by omega)
    have rel : Rel G H (start N vs) (startE N.length ts) ex := ⟨ft, ⟨fl, fun _ _ => rfl⟩, by
      rw [slots_start (hl.trans ht.symm)]
      exact ro⟩
    refine ⟨_, ex, rel, ?_⟩
    have key : ∀ {σ' : L2.St} {H' : Hp} {e : Env} {us : List T} {l : List (V × T)}, Rel G H' σ' e (l ++ ex) → outs io e = some us → Roots ⟨K, C⟩ H' (l ++ ((ioV io vs).zip us ++ ex)) := by
      intro σ' H' e us l r ho
      obtain ⟨e', r2⟩ := r.outs (vs := ioV io vs) hio ho (by simp [ioV]) fun k j ek => by
        obtain ⟨v, h1, h2⟩ := ioV_get (N := N) (vs := vs) (fun k hk => by rw [hl]; exact hib k hk) k j ek
        exact ⟨v, h1, (r.2.1.2 j (List.mem_of_getElem? ek)).trans h2⟩
      have r3 : Rel G H' σ' e' (l ++ ((ioV io vs).zip us ++ ex)) := r2.perm (perm3 ..)
      exact r3.2.2.drops
    have h : AftF ⟨K, C⟩ Q E io vs ex (finF io (fb (startE N.length ts))) := h
    cases e1 : fb (startE N.length ts) with
    | nx e =>
      rw [e1] at h
      intro σ' H' r
      cases ho : outs io e with
      | none => simp only [finF, ho] at h; exact h.elim
      | some us =>
        simp only [finF, ho] at h
        exact h.2 H' .non (Roots.add (key (l := []) r ho) fun _ => rfl)
    | rt t e =>
      rw [e1] at h
      intro σ' H' v r
      cases ho : outs io e with
      | none => simp only [finF, ho] at h; exact h.elim
      | some us =>
        simp only [finF, ho] at h
        exact h.2 H' v (key (l := [(v, t)]) r ho)
    | bk e => rw [e1] at h; exact h.elim
    | ct e => rw [e1] at h; exact h.elim
    | ex x e =>
      rw [e1] at h
      intro σ'
      cases ho : outs io e with
      | none => simp only [finF, ho] at h; exact h.elim
      | some us =>
        simp only [finF, ho] at h
        have h2 := h.2
        unfold XOk
        unfold XF at h2
        cases ed : x.d with
        | none =>
          rw [ed] at h2
          exact fun H' r => h2 H' (key (l := []) r ho)
        | some p =>
          rw [ed] at h2
          exact fun H' dx r => h2 H' dx (key (l := [_]) r ho)
    | no => rw [e1] at h; exact h.elim
end
/-! ### calls of defs -/
@[simp] def frzA : List (Option Nat) → List T → List T
  | some _ :: s, t :: ts => t :: frzA s ts
  | _ :: s, t :: ts => .fz (frz t) :: frzA s ts
  | [], ts => ts
  | _, [] => []
@[simp] def putJ : List Nat → List T → Env → Env
  | j :: js, t :: ts, e => putJ js ts (e.set j (some t))
  | _, _, e => e
@[simp] def retF (js : List Nat) (e : Env) : RF → R T
  | .ok t us => if us.length = js.length then .ok t (putJ js us e) else .no
  | .ex x us => if us.length = js.length then .ex x (putJ js us e) else .no
  | .no => .no
@[simp] def fCall (m : Mir) (js : List Nat) (src : List (Option Nat)) (fs : M (List T)) (env : Env) : R T := (fs env).bind fun ts e => retF js e (m (frzA src ts))
theorem frzA_len : ∀ {src : List (Option Nat)} {ts : List T}, (frzA src ts).length = ts.length
  | [], _ => rfl
  | some _ :: s, [] => rfl
  | none :: s, [] => rfl
  | some _ :: s, t :: ts => congrArg (· + 1) (frzA_len (src := s) (ts := ts))
  | none :: s, t :: ts => congrArg (· + 1) (frzA_len (src := s) (ts := ts))
theorem Roots.frzA {Z : Wd} {H : Hp} : ∀ {src : List (Option Nat)} {vs : List V} {ts : List T} {rs : List (V × T)}, Roots Z H (vs.zip ts ++ rs) → Roots Z H (vs.zip (frzA src ts) ++ rs)
  | [], _, _, _, h => h
  | _ :: _, [], _, _, h => by simpa using h
  | some _ :: s, v :: vs, [], _, h => by simpa [DL.frzA] using h
  | none :: s, v :: vs, [], _, h => by simpa [DL.frzA] using h
  | some j :: s, v :: vs, t :: ts, rs, h => by
    have h2 : Roots Z H (vs.zip ts ++ ((v, t) :: rs)) := h.perm List.perm_middle.symm
    exact (Roots.frzA (src := s) h2).perm List.perm_middle
  | none :: s, v :: vs, t :: ts, rs, h => by
    have h1 : Roots Z H ((v, .fz (frz t)) :: (vs.zip ts ++ rs)) := Roots.freeze h
    have h2 : Roots Z H (vs.zip ts ++ ((v, .fz (frz t)) :: rs)) := h1.perm List.perm_middle.symm
    exact (Roots.frzA (src := s) h2).perm List.perm_middle
section
variable {G : Sg} {W : WX} {H : Hp} {σ : L2.St} {e : Env} {ex : List (V × T)}
theorem Rel.putJ : ∀ {js : List Nat} {us : List T} {vs : List V} {e : Env}, Rel G H σ e (vs.zip us ++ ex) → vs.length = us.length → js.length = us.length → (∀ (k j : Nat), js[k]? = some j → ∃ v, vs[k]? = some v ∧ σ[j]? = some (some v)) → Rel G H σ (putJ js us e) ex
  | [], [], [], _, r, _, _, _ => r
  | [], [], _ :: _, _, _, h, _, _ => by cases h
  | [], _ :: _, _, _, _, _, h, _ => by cases h
  | _ :: _, [], _, _, _, _, h, _ => by cases h
  | _ :: _, _ :: _, [], _, _, h, _, _ => by cases h
  | j :: js, u :: us, v :: vs, e, r, h1, h2, hv => by
    obtain ⟨v', e1, e2⟩ := hv 0 j rfl
    have e1 : v = v' := Option.some.inj e1
    subst e1
    exact Rel.putJ (js := js) (us := us) (vs := vs) (Rel.put r e2) (Nat.succ.inj h1) (Nat.succ.inj h2) fun k j ek => hv (k + 1) j ek
/-- a promise asked -/
theorem rd_call {m : Mir} {n : Nat} {io js : List Nat} {src : List (Option Nat)} {ts : List T} {vs : List V} {Q : VK} {P : T → Env → Prop} (hP : ∀ t e H' v, P t e → Rel G H' σ e ((v, t) :: ex) → Q v H')
    (r : Rel G H σ e (vs.zip ts ++ ex)) (hl : vs.length = ts.length) (hn : vs.length = n) (hs : src.length = ts.length) (hsrc : ∀ (k j : Nat), src[k]? = some (some j) → ∃ v, vs[k]? = some v ∧ σ[j]? = some (some v))
    (hj : io.map (fun k => src.getD k none) = js.map some) (h : Aft (XOk G W σ ex) P (retF js e (m (frzA src ts)))) : spOf G.Z n io m vs H Q (fun cls d H' => W cls d σ H') := by
  refine ⟨frzA src ts, slots σ e ++ ex, hn, by rw [frzA_len, ← hl]; exact hn, Roots.frzA r.out, ?_⟩
  have jl : js.length = io.length := by have := congrArg List.length hj; simpa using this.symm
  have hv : ∀ (k j : Nat), js[k]? = some j → ∃ v, (ioV io vs)[k]? = some v ∧ σ[j]? = some (some v) := fun k j ek => by
    have e1 : (io.map (fun k => src.getD k none))[k]? = some (some j) := by rw [hj, List.getElem?_map, ek]; rfl
    rw [List.getElem?_map] at e1
    obtain ⟨i, ei, e2⟩ := Option.map_eq_some_iff.mp e1
    have e3 : src[i]? = some (some j) := by
      rw [List.getD_eq_getElem?_getD] at e2
      cases q : src[i]? with
      | none => rw [q] at e2; cases e2
      | some o => rw [q] at e2; exact congrArg some e2
    obtain ⟨v, q1, q2⟩ := hsrc i j e3
    refine ⟨v, ?_, q2⟩
    unfold ioV
    rw [List.getElem?_map, ei]
    show some (vs.getD i .non) = some v
    rw [List.getD_eq_getElem?_getD, q1]
    rfl
  have back : ∀ {H' : Hp} {us : List T} {l : List (V × T)}, us.length = io.length → Roots G.Z H' (l ++ ((ioV io vs).zip us ++ (slots σ e ++ ex))) → Rel G H' σ (DL.putJ js us e) (l ++ ex) := by
    intro H' us l hu q
    have q1 : Rel G H' σ e ((ioV io vs).zip us ++ (l ++ ex)) := r.back (l := (ioV io vs).zip us) (q.perm ((perm3 ..).trans (List.Perm.append_left _ (perm3 ..))))
    exact Rel.putJ q1 (by simp [ioV, hu]) (jl.trans hu.symm) hv
  cases em : m (frzA src ts) with
  | no => rw [em] at h; exact h
  | ok t us =>
    rw [em] at h
    have h : Aft (XOk G W σ ex) P (if us.length = js.length then .ok t (DL.putJ js us e) else .no) := h
    split at h
    · rename_i hu
      exact ⟨hu.trans jl, fun H' v q => hP t _ H' v h (back (l := [(v, t)]) (hu.trans jl) q)⟩
    · exact h.elim
  | ex x us =>
    rw [em] at h
    have h : Aft (XOk G W σ ex) P (if us.length = js.length then .ex x (DL.putJ js us e) else .no) := h
    split at h
    · rename_i hu
      refine ⟨hu.trans jl, ?_⟩
      have h : XOk G W σ ex (DL.putJ js us e) x := h
      unfold XOk at h
      unfold XF
      cases ed : x.d with
      | none =>
        rw [ed] at h
        exact fun H' q => h H' (back (l := []) (hu.trans jl) q)
      | some p =>
        rw [ed] at h
        exact fun H' dx q => h H' dx (back (l := [_]) (hu.trans jl) q)
    · exact h.elim
end
section
variable {X : Cx} {G : Sg} {W : WX} {e : Expr} {es : List Expr} {fs : M (List T)} {src : List (Option Nat)} {k : Nat} {f : Addr} {fd : FuncData} {ps : List Str} {io : List Nat} {m : Mir} {x : Str} {p pos : Pos}
/-- f(e, ..) -/
theorem de_call (F : FnOk X.prog X.w X.K X.mg X.base (L2.CX X.prog X.w) k f fd ps (spOf G.Z ps.length io m)) (hr : Room k X.A) (hg : Gl X x) (hm : X.mg x = some (.ref f)) (hk : PySem.W.keepIn X.K (.ref f) = true) (hb : Binds X.K fd ps []) (js : List Nat)
    (hj : io.map (fun k => src.getD k none) = js.map some) (hsl : src.length = ps.length) (ha : DA X G W (e :: es) src fs) (hdb : (x == ("__debug__" : Str)) = false := by decide) (he : starEach (e :: es) X.env = (false, eval e X.env) :: starEach es X.env := by rfl) (hpl : (backTo pos (starEach es X.env)).any (·.1) = false := by rfl) :
    DE X G W (.Call (.Name x p) (e :: es) [] pos) (fCall m js src fs) := fun gd =>
  (pe_callS F hr hg hm hk hb (fun σ => passAt gd.tk σ) (ha gd) hdb he hpl).imp fun σ H Q ⟨env, ex, r, h⟩ => ⟨env, ex, r, aft_more (l := []) (aft_bind h) fun ts e p H2 vs hl hs hsrc r2 =>
    rd_call (P := fun t e => ∀ H' v, Rel G H' σ e ((v, t) :: ex) → Q v H') (fun t e H' v q r' => q H' v r') r2 hl (by rw [hl, ← hs]; exact hsl) hs hsrc hj p⟩
end
end DL

set_option maxHeartbeats 4000000
namespace DL
open PySem PySem.Spec PyProof.Rows L2
section
variable {X : Cx} {Z : Wd}
theorem OpD.or {f : Value → Value → Sem Value} {g k : D → D → Option T} (h1 : OpD X Z f g) (h2 : OpD X Z f k) : OpD X Z f (fun a b => (g a b).or (k a b)) := by
  obtain ⟨r, a1, b1⟩ := h1
  obtain ⟨q, a2, b2⟩ := h2
  refine ⟨_, a1.or a2, fun H rs v1 v2 d1 d2 t Q ro h k => ?_⟩
  dsimp only at h
  cases e : g d1 d2 with
  | some t' =>
    rw [e] at h
    cases h
    exact .inl (b1 H rs v1 v2 d1 d2 _ Q ro e k)
  | none =>
    rw [e] at h
    exact .inr (b2 H rs v1 v2 d1 d2 _ Q ro h k)
theorem Roots.drop2 {H : Hp} {r q : V × T} {rs : List (V × T)} (h : Roots Z H (r :: q :: rs)) : Roots Z H rs := h.drop.drop
theorem Roots.pair {H : Hp} {v1 v2 : V} {d1 d2 : D} {rs : List (V × T)} (h : Roots Z H ((v2, .fz d2) :: (v1, .fz d1) :: rs)) : Rp Z H v1 d1 ∧ Rp Z H v2 d2 := ⟨h.drop.fz, h.fz⟩
/-- two ints under a condition -/
@[simp] def gI (c : Int → Int → Bool) (g : Int → Int → D) : D → D → Option T
  | .int i, .int j => if c i j = true then some (.fz (g i j)) else none
  | _, _ => none
theorem opd_I {f : Value → Value → Sem Value} {C : Int → Int → Prop} {c : Int → Int → Bool} {g : Int → Int → D} {gv : Int → Int → V} (h : OpR X f (rI C gv)) (hc : ∀ i j, c i j = true → C i j) (hg : ∀ i j F, Rp Z F (gv i j) (g i j)) : OpD X Z f (gI c g) := by
  refine ⟨_, h, fun H rs v1 v2 d1 d2 t Q ro e k => ?_⟩
  obtain ⟨p1, p2⟩ := ro.pair
  unfold gI at e
  split at e
  · rename_i i j
    split at e
    · rename_i hcc
      cases e
      exact ⟨i, j, p1, p2, hc i j hcc, k H _ (Roots.add ro.drop2 (hg i j))⟩
    · cases e
  · cases e
@[simp] def gI0 (g : Int → Int → D) : D → D → Option T
  | .int i, .int j => some (.fz (g i j))
  | _, _ => none
theorem opd_I0 {f : Value → Value → Sem Value} {g : Int → Int → D} {gv : Int → Int → V} (h : OpR X f (rI0 gv)) (hg : ∀ i j F, Rp Z F (gv i j) (g i j)) : OpD X Z f (gI0 g) := by
  refine ⟨_, h, fun H rs v1 v2 d1 d2 t Q ro e k => ?_⟩
  obtain ⟨p1, p2⟩ := ro.pair
  unfold gI0 at e
  split at e
  · rename_i i j
    cases e
    exact ⟨i, j, p1, p2, k H _ (Roots.add ro.drop2 (hg i j))⟩
  · cases e
theorem od_addI : OpD X Z (binaryOp .Add) (gI0 fun i j => .int (i + j)) := opd_I0 op_add fun _ _ _ => rfl
theorem od_sub : OpD X Z (binaryOp .Sub) (gI0 fun i j => .int (i - j)) := opd_I0 op_sub fun _ _ _ => rfl
theorem iod_addI : OpD X Z (inplaceOp .Add) (gI0 fun i j => .int (i + j)) := opd_I0 iop_add fun _ _ _ => rfl
theorem iod_sub : OpD X Z (inplaceOp .Sub) (gI0 fun i j => .int (i - j)) := opd_I0 iop_sub fun _ _ _ => rfl
/-- the size of a number: its bits -/
def sz (i : Int) : Nat := i.natAbs.log2
def mulOk (i j : Int) : Bool := decide (sz i + sz j < 134000000)
theorem mulOk_ok {i j : Int} (h : mulOk i j = true) : IntMulOk i j := by
  have h : sz i + sz j < 134000000 := of_decide_eq_true h
  have b : ∀ x : Int, Builtin.Int.intBits x ≤ sz x + 1 := fun x => by
    unfold Builtin.Int.intBits sz
    split <;> omega
  have h1 := b i
  have h2 := b j
  have e : bitsLine = 134217728 := by decide
  unfold IntMulOk
  intro z
  rw [Bool.and_eq_true] at z
  have z2 := z.2
  unfold Builtin.Int.intTooBig at z2
  have z3 := of_decide_eq_true z2
  rw [e] at z3
  omega
theorem od_mulI : OpD X Z (binaryOp .Mult) (gI mulOk fun i j => .int (i * j)) := opd_I (C := fun i j => mulOk i j = true) (opI fun _ _ _ _ _ _ _ hc q => mul_int q (mulOk_ok hc)) (fun _ _ h => h) fun _ _ _ => rfl
def divOk (_ j : Int) : Bool := decide (j ≠ 0 ∧ sz j < 9000)
theorem od_fdiv : OpD X Z (binaryOp .FloorDiv) (gI divOk fun i j => .int (i.fdiv j)) := opd_I (C := fun i j => j ≠ 0 ∧ sz j < 9000) (opI fun _ _ _ _ _ _ _ hc q => floordiv_int hc.1 q (.inl (PyProof.noPylong_of_log2 hc.2))) (fun _ _ h => of_decide_eq_true h) fun _ _ _ => rfl
theorem od_mod : OpD X Z (binaryOp .Mod) (gI (fun _ j => decide (j ≠ 0)) fun i j => .int (i.fmod j)) := opd_I op_modN (fun _ _ h => of_decide_eq_true h) fun _ _ _ => rfl
def powOk (i j : Int) : Bool := decide (0 ≤ j ∧ j ≤ 1000000 ∧ i.natAbs < 2 ^ 64)
theorem od_pow : OpD X Z (binaryOp .Pow) (gI powOk fun i j => .int (i ^ j.toNat)) := opd_I op_pow (fun i j h => show 0 ≤ j ∧ j ≤ 1000000 ∧ i.natAbs < 2 ^ 64 from of_decide_eq_true h) fun _ _ _ => rfl
theorem od_lt : OpD X Z (compareOp .Lt) (gI0 fun i j => .bl (decide (i < j))) := opd_I0 op_lt fun _ _ _ => rfl
theorem od_le : OpD X Z (compareOp .LtE) (gI0 fun i j => .bl (decide (i ≤ j))) := opd_I0 op_le fun _ _ _ => rfl
theorem od_gt : OpD X Z (compareOp .Gt) (gI0 fun i j => .bl (decide (j < i))) := opd_I0 op_gt fun _ _ _ => rfl
theorem od_ge : OpD X Z (compareOp .GtE) (gI0 fun i j => .bl (decide (j ≤ i))) := opd_I0 op_ge fun _ _ _ => rfl
/-- == of scalars -/
@[simp] def eqS : D → D → Option Bool
  | .int i, .int j => some (decide (i = j))
  | .bl i, .bl j => some (decide (i = j))
  | .str i, .str j => some (decide (i = j))
  | .non, .non => some true
  | .non, .int _ => some false
  | .int _, .non => some false
  | .non, .bl _ => some false
  | .bl _, .non => some false
  | .non, .str _ => some false
  | .str _, .non => some false
  | .int _, .str _ => some false
  | .str _, .int _ => some false
  | .bl _, .str _ => some false
  | .str _, .bl _ => some false
  | _, _ => none
@[simp] def gEqS (neg : Bool) : D → D → Option T := fun a b => (eqS a b).map fun k => .fz (.bl (if neg then !k else k))
theorem eqS_ok {H : Hp} {v1 v2 : V} {d1 d2 : D} {k : Bool} (p1 : Rp Z H v1 d1) (p2 : Rp Z H v2 d2) (e : eqS d1 d2 = some k) : scal v1 v2 = true ∧ decide (v1 = v2) = k := by
  unfold eqS at e
  split at e <;> first
    | (cases e; cases p1; cases p2; exact ⟨rfl, by simp⟩)
    | cases e
theorem od_eqS : OpD X Z (compareOp .Eq) (gEqS false) := by
  refine ⟨_, op_eq, fun H rs v1 v2 d1 d2 t Q ro e k => ?_⟩
  obtain ⟨p1, p2⟩ := ro.pair
  obtain ⟨b, e1, rfl⟩ := Option.map_eq_some_iff.mp e
  obtain ⟨h1, h2⟩ := eqS_ok p1 p2 e1
  refine ⟨h1, ?_⟩
  rw [h2]
  exact k H _ (Roots.add ro.drop2 fun _ => rfl)
theorem od_neS : OpD X Z (compareOp .NotEq) (gEqS true) := by
  refine ⟨_, op_ne, fun H rs v1 v2 d1 d2 t Q ro e k => ?_⟩
  obtain ⟨p1, p2⟩ := ro.pair
  obtain ⟨b, e1, rfl⟩ := Option.map_eq_some_iff.mp e
  obtain ⟨h1, h2⟩ := eqS_ok p1 p2 e1
  refine ⟨h1, ?_⟩
  rw [h2]
  exact k H _ (Roots.add ro.drop2 fun _ => rfl)
@[simp] def gNeg : D → Option T
  | .int i => some (.fz (.int (-i)))
  | _ => none
theorem ud_neg : UnD X Z (unaryOp .USub) gNeg := by
  refine ⟨_, un_neg, fun H rs v d t Q ro e k => ?_⟩
  unfold gNeg at e
  split at e
  · rename_i i
    cases e
    exact ⟨i, ro.fz, k H _ (Roots.add ro.drop fun _ => rfl)⟩
  · cases e
/-! ### built-ins -/
theorem Roots.args1 {H : Hp} {vs : List V} {d : D} {rs : List (V × T)} (h : Roots Z H (vs.zip ([d].map T.fz) ++ rs)) (hl : vs.length = [d].length) : ∃ v, vs = [v] ∧ Roots Z H ((v, .fz d) :: rs) := by
  rcases vs with _ | ⟨v, _ | ⟨w, vs⟩⟩
  · cases hl
  · exact ⟨v, rfl, h⟩
  · cases hl
theorem Roots.args2 {H : Hp} {vs : List V} {d d' : D} {rs : List (V × T)} (h : Roots Z H (vs.zip ([d, d'].map T.fz) ++ rs)) (hl : vs.length = [d, d'].length) : ∃ v w, vs = [v, w] ∧ Roots Z H ((v, .fz d) :: (w, .fz d') :: rs) := by
  rcases vs with _ | ⟨v, _ | ⟨w, _ | ⟨x, vs⟩⟩⟩
  · cases hl
  · cases hl
  · exact ⟨v, w, rfl, h⟩
  · cases hl
@[simp] def g1 (g : D → Option T) : List D → Option T
  | [d] => g d
  | _ => none
@[simp] def g2 (g : D → D → Option T) : List D → Option T
  | [d, e] => g d e
  | _ => none
theorem cd_1 {f : Value} {r : List V → Hp → VK → Prop} {g : D → Option T} (h : CallR X f r) (k : ∀ (H : Hp) (rs : List (V × T)) (v : V) (d : D) (t : T) (Q : VK), Roots Z H ((v, .fz d) :: rs) → g d = some t → (∀ H' v, Roots Z H' ((v, t) :: rs) → Q v H') → r [v] H Q) : CallD X Z f (g1 g) := by
  refine ⟨r, h, fun H rs vs ds t Q ro hl e q => ?_⟩
  unfold g1 at e
  split at e
  · obtain ⟨v, rfl, ro'⟩ := ro.args1 hl
    exact k H rs v _ t Q ro' e q
  · cases e
theorem cd_2 {f : Value} {r : List V → Hp → VK → Prop} {g : D → D → Option T} (h : CallR X f r) (k : ∀ (H : Hp) (rs : List (V × T)) (v w : V) (d d' : D) (t : T) (Q : VK), Roots Z H ((v, .fz d) :: (w, .fz d') :: rs) → g d d' = some t → (∀ H' v, Roots Z H' ((v, t) :: rs) → Q v H') → r [v, w] H Q) : CallD X Z f (g2 g) := by
  refine ⟨r, h, fun H rs vs ds t Q ro hl e q => ?_⟩
  unfold g2 at e
  split at e
  · obtain ⟨v, w, rfl, ro'⟩ := ro.args2 hl
    exact k H rs v w _ _ t Q ro' e q
  · cases e
@[simp] def gLen : D → Option T
  | .lst xs => some (.fz (.int xs.length))
  | .tup xs => some (.fz (.int xs.length))
  | .str y => if y.length ≤ sizeLine then some (.fz (.int y.length)) else none
  | _ => none
theorem cd_len (hK : Z.K = X.K) : CallD X Z (.builtin "len") (g1 gLen) := cd_1 call_len fun H rs v d t Q ro e k => by
  have p := ro.fz
  unfold gLen at e
  split at e
  · obtain ⟨a, vs, rfl, q, r⟩ := p
    cases e
    refine ⟨_, vs.length, rfl, .inl ⟨vs, by rw [← hK]; exact q, rfl⟩, ?_⟩
    rw [r.length]
    exact k H _ (Roots.add ro.drop fun _ => rfl)
  · obtain ⟨a, vs, rfl, q, r⟩ := p
    cases e
    refine ⟨_, vs.length, rfl, .inr ⟨vs, by rw [← hK]; exact q, rfl⟩, ?_⟩
    rw [r.length]
    exact k H _ (Roots.add ro.drop fun _ => rfl)
  · split at e
    · rename_i y hy
      cases e
      cases p
      exact ⟨_, y.length, rfl, ⟨hy, rfl⟩, k H _ (Roots.add ro.drop fun _ => rfl)⟩
    · cases e
  · cases e
@[simp] def gAbs : D → Option T
  | .int i => some (.fz (.int (if i < 0 then -i else i)))
  | _ => none
theorem cd_abs : CallD X Z (.builtin "abs") (g1 gAbs) := cd_1 call_abs fun H rs v d t Q ro e k => by
  unfold gAbs at e
  split at e
  · cases e
    exact ⟨_, congrArg (fun x => [x]) ro.fz, k H _ (Roots.add ro.drop fun _ => rfl)⟩
  · cases e
@[simp] def gInt : D → Option T
  | .int i => some (.fz (.int i))
  | .bl b => some (.fz (.int (if b then 1 else 0)))
  | _ => none
theorem cd_int : CallD X Z (.type "int") (g1 gInt) := cd_1 call_int1 fun H rs v d t Q ro e k => by
  unfold gInt at e
  split at e
  · cases e
    exact .inl ⟨_, congrArg (fun x => [x]) ro.fz, k H _ (Roots.add ro.drop fun _ => rfl)⟩
  · cases e
    exact .inr ⟨_, congrArg (fun x => [x]) ro.fz, k H _ (Roots.add ro.drop fun _ => rfl)⟩
  · cases e
end
end DL

set_option maxHeartbeats 4000000
namespace DL
open PySem PySem.Spec PyProof.Rows L2
section
variable {X : Cx} {G : Sg} {W : WX} {Z : Wd} {a b c e : Expr} {es : List Expr} {fa fb fc : M T} {fs : M (List T)} {src : List (Option Nat)} {pos : Pos}
/-! ### subscripts -/
theorem Rps.atI {F : Hp} {vs : List V} {ds : List D} {i : Int} {d : D} (r : Rps Z F vs ds) (h : L2.atI ds i = some d) : ∃ v, L2.atI vs i = some v ∧ Rp Z F v d := by
  unfold L2.atI at h ⊢
  rw [r.length]
  obtain ⟨j, h1, h2⟩ := Option.bind_eq_some_iff.mp h
  obtain ⟨v, e, q⟩ := r.get h2
  exact ⟨v, by rw [h1]; exact e, q⟩
@[simp] def gIx : D → D → Option T
  | .lst ds, .int i => (atI ds i).map T.fz
  | .tup ds, .int i => (atI ds i).map T.fz
  | .str z, .int i => if z.length ≤ sizeLine then (atI z.cps.toList i).map fun c => T.fz (.str ⟨#[c]⟩) else none
  | _, _ => none
/-- a child of a frozen root -/
theorem Roots.kid {H : Hp} {v : V} {d : D} {rs : List (V × T)} (h : Roots Z H ((v, .fz d) :: rs)) {w : V} {d' : D} (k : ∀ F, Rp Z F v d → Same F H → Rp Z F w d') : Roots Z H ((w, .fz d') :: rs) := by
  obtain ⟨F, _, s, ⟨f1, f2, o1, o2, rfl⟩, n, q⟩ := h
  have e : f1 = [] := o1.2
  subst e
  exact ⟨F, f2, s, ⟨[], f2, ⟨k F o1.1 s, rfl⟩, o2, rfl⟩, n, q⟩
theorem Roots.kidL {H : Hp} {v : V} {ds : List D} {i : Int} {d : D} {rs : List (V × T)} (h : Roots Z H ((v, .fz (.lst ds)) :: rs)) (e : L2.atI ds i = some d) : ∃ p vs w, v = .ref p ∧ SqL Z.K H p vs ∧ L2.atI vs i = some w ∧ Roots Z H ((w, .fz d) :: rs) := by
  obtain ⟨F, _, s, ⟨f1, f2, ⟨⟨p, vs, ev, q, r⟩, e1⟩, o2, rfl⟩, n, k⟩ := h
  subst e1
  obtain ⟨w, ew, rw'⟩ := r.atI e
  exact ⟨p, vs, w, ev, s.seq q, ew, F, f2, s, ⟨[], f2, ⟨rw', rfl⟩, o2, rfl⟩, n, k⟩
theorem Roots.kidT {H : Hp} {v : V} {ds : List D} {i : Int} {d : D} {rs : List (V × T)} (h : Roots Z H ((v, .fz (.tup ds)) :: rs)) (e : L2.atI ds i = some d) : ∃ p vs w, v = .ref p ∧ SqT Z.K H p vs ∧ L2.atI vs i = some w ∧ Roots Z H ((w, .fz d) :: rs) := by
  obtain ⟨F, _, s, ⟨f1, f2, ⟨⟨p, vs, ev, q, r⟩, e1⟩, o2, rfl⟩, n, k⟩ := h
  subst e1
  obtain ⟨w, ew, rw'⟩ := r.atI e
  exact ⟨p, vs, w, ev, same_t s q, ew, F, f2, s, ⟨[], f2, ⟨rw', rfl⟩, o2, rfl⟩, n, k⟩
theorem gIx_ok {H : Hp} {v y : V} {d k : D} {t : T} {rs : List (V × T)} {Q : VK} (ro : Roots Z H ((v, .fz d) :: rs)) (ry : Rp Z H y k) (h : gIx d k = some t) (q : ∀ v, Roots Z H ((v, t) :: rs) → Q v H) : rIx Z.K v y H Q := by
  unfold gIx at h
  split at h
  · rename_i ds i
    obtain ⟨d', h1, rfl⟩ := Option.map_eq_some_iff.mp h
    obtain ⟨p, vs, w, ev, hq, hw, ro'⟩ := ro.kidL h1
    exact .inl ⟨p, vs, i, w, ev, ry, hq, hw, q w ro'⟩
  · rename_i ds i
    obtain ⟨d', h1, rfl⟩ := Option.map_eq_some_iff.mp h
    obtain ⟨p, vs, w, ev, hq, hw, ro'⟩ := ro.kidT h1
    exact .inr (.inl ⟨p, vs, i, w, ev, ry, hq, hw, q w ro'⟩)
  · rename_i z i
    split at h
    · rename_i hz
      obtain ⟨cc, h1, rfl⟩ := Option.map_eq_some_iff.mp h
      exact .inr (.inr ⟨z, i, cc, ro.fz, ry, hz, h1, q _ (Roots.add ro.drop fun _ => rfl)⟩)
    · cases h
  · cases h
theorem de_ix (ha : DE X G W a fa) (hb : DE X G W b fb) (hs : PlainIx b := by exact fun _ _ => rfl) : DE X G W (.Subscript a b pos) (fBin gIx fa fb) := fun gd =>
  (pe_ix ix_seq (ha gd) (hb gd) hs).imp (rd_bin fun H rs v1 v2 d1 d2 t Q ro h k => by
    rw [← gd.hK]
    exact gIx_ok (ro.drop : Roots G.Z H ((v1, .fz d1) :: rs)) ro.fz h fun v q => k H v q)
/-- x[i] of a slot's list: the list is not frozen -/
@[simp] def peekT : T → D → Option T
  | .lst ts, .int i => match atI ts i with
    | some (.fz d) => some (.fz d)
    | _ => none
  | .fz d, k => gIx d k
  | _, _ => none
@[simp] def peekS (i : Nat) (e : Env) (k : D) : R T := match e[i]? with
  | some (some t) => ofO e (peekT t k)
  | _ => .no
@[simp] def fPeek (i : Nat) (fb : M T) (env : Env) : R T := match env[i]? with
  | some (some _) => (fb env).bind fun k e => peekS i e (frz k)
  | _ => .no
theorem Owns.get : ∀ {F H : Hp} {vs : List V} {ts : List T} {fp : List Addr} {j : Nat} {t : T}, Owns Z F H vs ts fp → ts[j]? = some t → ∃ v f, vs[j]? = some v ∧ Own Z F H v t f
  | F, H, [], [], _, _, _, _, e => by simp at e
  | F, H, v :: vs, t :: ts, _, 0, u, h, e => by
    obtain ⟨f1, f2, h1, h2, rfl⟩ := h
    have e : t = u := Option.some.inj e
    subst e
    exact ⟨v, f1, rfl, h1⟩
  | F, H, v :: vs, t :: ts, _, j + 1, u, h, e => by
    obtain ⟨f1, f2, h1, h2, rfl⟩ := h
    exact Owns.get (j := j) h2 e
  | _, _, [], _ :: _, _, _, _, h, _ => h.elim
  | _, _, _ :: _, [], _, _, _, h, _ => h.elim
theorem Roots.peek {H : Hp} {v : V} {ts : List T} {j : Nat} {d : D} {rs : List (V × T)} (h : Roots Z H ((v, .lst ts) :: rs)) (e : ts[j]? = some (.fz d)) : ∃ p vs w, v = .ref p ∧ H p = some (.lst vs) ∧ vs.length = ts.length ∧ vs[j]? = some w ∧ Roots Z H ((w, .fz d) :: (v, .lst ts) :: rs) := by
  obtain ⟨F, f, s, o, n, q⟩ := h
  obtain ⟨_, f2, ⟨p, vs, f1, e1, e2, o1, rfl⟩, o2, rfl⟩ := id o
  obtain ⟨w, fw, ew, ow⟩ := o1.get e
  exact ⟨p, vs, w, e1, e2, o1.length, ew, F, _, s, ⟨[], _, ⟨ow.1, rfl⟩, o, rfl⟩, n, q⟩
theorem peekT_ok {H : Hp} {v y : V} {t u : T} {k : D} {rs : List (V × T)} {Q : VK} (ro : Roots Z H ((v, t) :: rs)) (ry : Rp Z H y k) (h : peekT t k = some u) (q : ∀ w, Roots Z H ((w, u) :: (v, t) :: rs) → Q w H) : rIx Z.K v y H Q := by
  unfold peekT at h
  split at h
  · rename_i ts i
    split at h
    · rename_i d et
      cases h
      unfold L2.atI at et
      obtain ⟨j, e1, e2⟩ := Option.bind_eq_some_iff.mp et
      obtain ⟨p, vs, w, ev, hp, hl, ew, ro'⟩ := ro.peek e2
      refine .inl ⟨p, vs, i, w, ev, ry, SqL.of hp, ?_, q w ro'⟩
      unfold L2.atI
      rw [hl, e1]
      exact ew
    · cases h
  · exact gIx_ok ro.dup ry h fun w ro' => q w ro'
  · cases h
theorem de_peek {i : Nat} {x : Str} {p : Pos} (hN : X.N[i]? = some x) (hv : Vis X.env.scope x) (hb : DE X G W b fb) (hs : PlainIx b := by exact fun _ _ => rfl) (hd : (x == ("__debug__" : Str)) = false := by decide) (hcd : (x == ("__classdict__" : Str)) = false := by decide) :
    DE X G W (.Subscript (.Name x p) b pos) (fPeek i fb) := fun gd =>
  (pe_ix ix_seq (pe_var hN hv hd hcd) (hb gd) hs).imp fun σ H Q ⟨env, ex, r, h⟩ => by
    unfold fPeek at h
    split at h
    · rename_i t0 et0
      obtain ⟨v, ev⟩ := r.1.2 i t0 et0
      refine ⟨v, ev, rd_then r h fun H' y k e r' h' => ?_⟩
      unfold peekS at h'
      split at h'
      · rename_i t et
        cases e1 : peekT t (frz k) with
        | none => rw [e1] at h'; exact h'.elim
        | some u =>
          rw [e1] at h'
          obtain ⟨v', ev', r1⟩ := r'.freeze.take et
          rw [ev] at ev'
          cases ev'
          have ry : Rp G.Z H' y (frz k) := r'.freeze.out1.fz
          have ro : Roots G.Z H' ((v, t) :: (slots σ (e.set i none) ++ ex)) := r1.drop2.out1
          rw [← gd.hK]
          refine peekT_ok ro ry e1 fun w ro' => h' H' w ?_
          have r2 : Rel G H' σ (e.set i none) ((w, u) :: (v, t) :: ex) := r1.back (l := [(w, u), (v, t)]) ro'
          have r3 := (r2.perm (.swap ..)).put ev
          rw [List.set_set, set_self et] at r3
          exact r3
      · exact h'.elim
    · exact h.elim
/-! ### x[i] = e for a slot's own list -/
@[simp] def sPutAt (i : Nat) (t : T) (k : D) (e : Env) : Option Env := match e[i]?, k with
  | some (some (.lst ts)), .int n => (ixN ts.length n).map fun j => e.set i (some (.lst (ts.set j t)))
  | _, _ => none
@[simp] def sPut (i : Nat) (fb : M T) (t : T) (env : Env) : Option Env := match env[i]? with
  | some (some _) => (match fb env with
    | .ok k e => sPutAt i t (frz k) e
    | _ => none)
  | _ => none
theorem perm_set {α : Type} {l rs : List α} {j : Nat} {x : α} (h : j < l.length) : ∃ y, (l ++ x :: rs).Perm (l.set j x ++ y :: rs) := by
  induction l generalizing j with
  | nil => simp at h
  | cons z l ih =>
    cases j with
    | zero =>
      refine ⟨z, ?_⟩
      show (z :: (l ++ x :: rs)).Perm (x :: (l ++ z :: rs))
      exact (List.perm_middle.cons z).trans ((List.Perm.swap x z _).trans (List.perm_middle.symm.cons x))
    | succ j =>
      obtain ⟨y, p⟩ := ih (j := j) (by simpa using h)
      exact ⟨y, p.cons z⟩
theorem zip_set {α β : Type} : ∀ {vs : List α} {ts : List β} {j : Nat} {v : α} {t : β}, vs.length = ts.length → (vs.set j v).zip (ts.set j t) = (vs.zip ts).set j (v, t)
  | [], [], _, _, _, _ => rfl
  | _ :: _, _ :: _, 0, _, _, _ => rfl
  | _ :: vs, _ :: ts, j + 1, v, t, h => by
    have ih := zip_set (vs := vs) (ts := ts) (j := j) (v := v) (t := t) (Nat.succ.inj h)
    simp [ih]
  | [], _ :: _, _, _, _, h => by cases h
  | _ :: _, [], _, _, _, h => by cases h
theorem Roots.setL {H : Hp} {p : Addr} {ws : List V} {us : List T} {j : Nat} {v : V} {t : T} {rs : List (V × T)} (h : Roots Z H ((.ref p, .lst us) :: (v, t) :: rs)) (hw : H p = some (.lst ws)) (hl : ws.length = us.length) (hj : j < us.length) :
    Roots Z (upd H p (.lst (ws.set j v))) ((.ref p, .lst (us.set j t)) :: rs) := by
  obtain ⟨y, pm⟩ := perm_set (l := ws.zip us) (rs := rs) (j := j) (x := (v, t)) (by simp [hl]; exact hj)
  have q := Roots.putL (qs := y :: rs) h hw (vs := ws.set j v) (ts := us.set j t) (by simpa using hl) (by rw [zip_set hl]; exact pm)
  exact (q.perm (.swap ..)).drop
theorem dg_put {i : Nat} {x : Str} {p : Pos} (hN : X.N[i]? = some x) (hv : Vis X.env.scope x) (hb : DE X G W b fb) (ha : ∀ v, assign (.Subscript (.Name x p) b pos) X.env v = (do
      let ov ← holding [v] (eval (.Name x p) X.env)
      let iv ← holding [v, ov] (eval b X.env)
      standAt pos
      holding [v, ov, iv] (setItem ov iv v)
      release [v, ov, iv] []) := by intro _; rfl) (hd : (x == ("__debug__" : Str)) = false := by decide) (hcd : (x == ("__classdict__" : Str)) = false := by decide) :
    DG X G W (.Subscript (.Name x p) b pos) [] (sPut i fb) := fun gd =>
  (pg_sub (pe_var hN hv hd hcd) (hb gd) set_list ha).imp fun v σ H Q ⟨env, ex, t, r, e, he, h⟩ => by
    unfold sPut at he
    split at he
    · rename_i t0 et0
      obtain ⟨o, eo⟩ := r.1.2 i t0 et0
      refine ⟨o, eo, env, (v, t) :: ex, r, ?_⟩
      split at he
      · rename_i k e1 ek
        rw [ek]
        intro H' y r'
        unfold sPutAt at he
        split at he
        · rename_i ts n et en
          obtain ⟨j, ej, rfl⟩ := Option.map_eq_some_iff.mp he
          have ry : y = .int n := by
            have z := r'.freeze.out1.fz
            rw [en] at z
            exact z
          obtain ⟨o', eo', r1⟩ := r'.drop.take et
          rw [eo] at eo'
          cases eo'
          obtain ⟨pp, ws, eq, hp, hl⟩ := r1.out1.lst
          subst eq
          refine ⟨pp, ws, n, j, rfl, ry, hp, by rw [hl]; exact ej, h σ _ (Off.refl ..) ?_⟩
          have ro := Rel.out (l := [(V.ref pp, T.lst ts), (v, t)]) r1
          have r2 : Rel G _ σ (e1.set i none) ((.ref pp, .lst (ts.set j t)) :: ex) := r1.back1 (Roots.setL ro hp hl (ixN_seq ej).2.1)
          have r3 := r2.put eo
          rw [List.set_set] at r3
          exact r3
        · cases he
      · cases he
    · cases he
/-! ### x.append(e) for a slot's own list -/
@[simp] def apS (i : Nat) (t : T) (e : Env) : R T := match e[i]? with
  | some (some (.lst ts)) => if ts.length < sizeLine then .ok (.fz .non) (e.set i (some (.lst (ts ++ [t])))) else .no
  | _ => .no
@[simp] def fAppend (i : Nat) (fa : M T) (env : Env) : R T := match env[i]? with
  | some (some (.lst _)) => (fa env).bind fun t e => apS i t e
  | _ => .no
theorem Roots.appL {H : Hp} {p : Addr} {ws : List V} {us : List T} {v : V} {t : T} {rs : List (V × T)} (h : Roots Z H ((.ref p, .lst us) :: (v, t) :: rs)) (hw : H p = some (.lst ws)) (hl : ws.length = us.length) :
    Roots Z (upd H p (.lst (ws ++ [v]))) ((.ref p, .lst (us ++ [t])) :: rs) := by
  refine Roots.putL h hw (by simp [hl]) ?_
  rw [List.zip_append hl]
  simp
theorem de_append {i : Nat} {x : Str} {p apos : Pos} (hN : X.N[i]? = some x) (hv : Vis X.env.scope x) (ha : DE X G W a fa) (hd : (x == ("__debug__" : Str)) = false := by decide) (hcd : (x == ("__classdict__" : Str)) = false := by decide)
    (hsa : starEach [a] X.env = (false, eval a X.env) :: starEach [] X.env := by rfl) (hbase : attributeBase (.Name x p) "append" X.env (eval (.Name x p) X.env) = eval (.Name x p) X.env := by rfl)
    (hfew : ((backTo pos (starEach [a] X.env)).all (fun x => !x.1) && (backToKw pos (keywordEach [] X.env)).all (fun x => x.1.isSome)
      && decide ([a].length + ([] : List Keyword).length + (if ([] : List Keyword).isEmpty then 0 else 1) < 30)) = true := by rfl)
    (hline : (apos.endLine == pos.line) = true := by rfl) :
    DE X G W (.Call (.Attribute (.Name x p) "append" apos) [a] [] pos) (fAppend i fa) := fun gd =>
  (pe_bm PySem.F.plainAttrs_list PySem.F.slot_list_append PySem.F.type_list_append mt_append (pe_var hN hv hd hcd) (pa_cons (ha gd) pa_nil hsa) hbase hfew hline hsa).imp fun σ H Q ⟨env, ex, r, h⟩ => by
    unfold fAppend at h
    split at h
    · rename_i ts0 et0
      obtain ⟨v, ev⟩ := r.1.2 i _ et0
      obtain ⟨v', ev', r0⟩ := r.take et0
      rw [ev] at ev'
      cases ev'
      obtain ⟨p0, vs0, e0, hp0, _⟩ := r0.out1.lst
      subst e0
      refine ⟨_, ev, .inl ⟨rfl, vs0, SqL.of hp0⟩, rd_then r h fun H' y t e r' h' => ?_⟩
      unfold apS at h'
      split at h'
      · rename_i ts et
        split at h'
        · rename_i hz
          obtain ⟨o', eo', r1⟩ := r'.take et
          rw [ev] at eo'
          cases eo'
          obtain ⟨pp, ws, eq, hp, hl⟩ := r1.out1.lst
          cases eq
          refine ⟨_, ws, y, rfl, rfl, hp, by rw [hl]; exact hz, h' _ _ ?_⟩
          have ro := Rel.out (l := [(V.ref p0, T.lst ts), (y, t)]) r1
          have r2 : Rel G _ σ (e.set i none) ((.ref p0, .lst (ts ++ [t])) :: ex) := r1.back1 (Roots.appL ro hp hl)
          have r3 := r2.put ev
          rw [List.set_set] at r3
          exact r3.back1 (Roots.add r3.2.2 fun _ => rfl)
        · exact h'.elim
      · exact h'.elim
    · exact h.elim
end
end DL

set_option maxHeartbeats 4000000
namespace DL
open PySem PySem.Spec PyProof.Rows L2
section
variable {X : Cx} {G : Sg} {W : WX} {Z : Wd} {a b c e : Expr} {es : List Expr} {fa fb fc : M T} {fs : M (List T)} {src : List (Option Nat)} {pos : Pos}
/-! ### what is walked -/
@[simp] def seqD : D → Option (List D)
  | .lst ds => some ds
  | .tup ds => some ds
  | _ => none
@[simp] def ofL (e : Env) : Option (List D) → R (List D)
  | some ds => .ok ds e
  | none => .no
@[simp] def iSeq (f : M T) (env : Env) : R (List D) := (f env).bind fun t e => ofL e (seqD (frz t))
theorem dwalk_list {v : V} {ds : List D} {p : Addr} (ev : v = .ref p) : DWalk Z (Itl Z.K p) [(v, .fz (.lst ds))] ds where
  go := fun i H rs hi ro => by
    obtain ⟨q, vs, e, s, r⟩ := ro.fz
    rw [ev] at e
    cases e
    obtain ⟨w, ew, _⟩ := r.get (List.getElem?_eq_getElem hi)
    exact ⟨vs, w, s, ew⟩
  stop := fun H rs ro => by
    obtain ⟨q, vs, e, s, r⟩ := ro.fz
    rw [ev] at e
    cases e
    exact ⟨vs, s, by rw [r.length]; exact Nat.le_refl _⟩
  yld := fun i H H' x rs d hd ro y => by
    obtain ⟨rfl, hy⟩ := y
    refine Roots.kid (Roots.dup ro) fun F r s => ?_
    obtain ⟨q, vs, e, sq, r⟩ := r
    rw [ev] at e
    cases e
    obtain ⟨w, ew, rw'⟩ := r.get hd
    rw [hy vs (s.seq sq)] at ew
    cases ew
    exact rw'
theorem dwalk_tup {v : V} {ds : List D} {p : Addr} (ev : v = .ref p) : DWalk Z (Itt Z.K p) [(v, .fz (.tup ds))] ds where
  go := fun i H rs hi ro => by
    obtain ⟨q, vs, e, s, r⟩ := ro.fz
    rw [ev] at e
    cases e
    obtain ⟨w, ew, _⟩ := r.get (List.getElem?_eq_getElem hi)
    exact ⟨vs, w, s, ew⟩
  stop := fun H rs ro => by
    obtain ⟨q, vs, e, s, r⟩ := ro.fz
    rw [ev] at e
    cases e
    exact ⟨vs, s, by rw [r.length]; exact Nat.le_refl _⟩
  yld := fun i H H' x rs d hd ro y => by
    obtain ⟨rfl, hy⟩ := y
    refine Roots.kid (Roots.dup ro) fun F r s => ?_
    obtain ⟨q, vs, e, sq, r⟩ := r
    rw [ev] at e
    cases e
    obtain ⟨w, ew, rw'⟩ := r.get hd
    rw [hy vs (same_t s sq)] at ew
    cases ew
    exact rw'
theorem di_seq {tg : Expr} (ha : DE X G W a fa) : DI X G W tg a (iSeq fa) := fun gd =>
  ((pi_list (ha gd)).or (pi_tup (ha gd))).imp fun σ H R ⟨env, ex, r, h⟩ => by
    unfold iSeq at h
    cases e1 : fa env with
    | no => rw [e1] at h; exact h.elim
    | ex x e => rw [e1] at h; exact .inl ⟨env, ex, r, by rw [e1]; exact h⟩
    | ok t e =>
      rw [e1] at h
      have h : Aft (XOk G W σ ex) _ (ofL e (seqD (frz t))) := h
      cases e2 : frz t with
      | lst ds =>
        rw [e2] at h
        refine .inl ⟨env, ex, r, ?_⟩
        rw [e1]
        intro H' v r'
        have r2 := r'.freeze
        rw [e2] at r2
        obtain ⟨p, vs, ev, sq, _⟩ := r2.out1.fz
        refine ⟨p, ev, ⟨vs, by rw [← gd.hK]; exact sq⟩, ?_⟩
        rw [← gd.hK]
        exact h H' _ _ (dwalk_list ev) r2
      | tup ds =>
        rw [e2] at h
        refine .inr ⟨env, ex, r, ?_⟩
        rw [e1]
        intro H' v r'
        have r2 := r'.freeze
        rw [e2] at r2
        obtain ⟨p, vs, ev, sq, _⟩ := r2.out1.fz
        refine ⟨p, ev, ⟨vs, by rw [← gd.hK]; exact sq⟩, ?_⟩
        rw [← gd.hK]
        exact h H' _ _ (dwalk_tup ev) r2
      | _ => rw [e2] at h; exact h.elim
/-- the ints lo, lo + 1, .. -/
def rangeD (lo : Int) (n : Nat) : List D := (List.range n).map fun i => .int (lo + (i : Nat))
theorem dwalk_range {lo : Int} {n : Nat} : DWalk Z (Itr lo n) [] (rangeD lo n) where
  go := fun i H rs hi ro => by
    show i < n
    simpa [rangeD] using hi
  stop := fun H rs ro => by
    show n ≤ (rangeD lo n).length
    simp [rangeD]
  yld := fun i H H' x rs d hd ro y => by
    obtain ⟨rfl, rfl⟩ := y
    have hi : i < n := by
      have := lt_of_get hd
      simpa [rangeD] using this
    have : (rangeD lo n)[i]? = some (.int (lo + (i : Nat))) := by
      unfold rangeD
      rw [List.getElem?_map, List.getElem?_range hi]
      rfl
    rw [this] at hd
    cases hd
    exact Roots.add ro fun _ => rfl
def rgOk (i : Int) : Bool := Nat.ble i.natAbs 4611686018427387903
theorem rgOk_of {i : Int} (h : i.natAbs < 2 ^ 62) : rgOk i = true := Nat.ble_eq_true_of_le (Nat.le_of_lt_succ h)
theorem rgOk_iff {i : Int} (h : rgOk i = true) : -(2 ^ 62) ≤ i ∧ i < 2 ^ 62 := by
  have := Nat.le_of_ble_eq_true h
  omega
def range1D : List D → Option (List D)
  | [.int n] => if rgOk n = true then some (rangeD 0 n.toNat) else none
  | _ => none
def range2D : List D → Option (List D)
  | [.int i, .int j] => if (rgOk i && rgOk j) = true then some (rangeD i (j - i).toNat) else none
  | _ => none
@[simp] def iArgs (g : List D → Option (List D)) (fs : M (List T)) (env : Env) : R (List D) := (fs env).bind fun ts e => ofL e (g (frzs ts))
theorem di_range1 {tg : Expr} {p : Pos} (hg : Gl X "range") (hm : X.mg "range" = none) (ha : DA X G W [a] [none] fs) (hs : starEach [a] X.env = [(false, eval a X.env)] := by rfl) : DI X G W tg (.Call (.Name "range" p) [a] [] pos) (iArgs range1D fs) := fun gd =>
  (pi_range1 hg hm (ha gd) hs).imp fun σ H R ⟨env, ex, r, h⟩ => ⟨env, ex, r, aft_more (l := []) (aft_bind h) fun ts e p H2 vs hl hs hsrc r2 => by
    unfold range1D at p
    split at p
    · rename_i n en
      split at p
      · rename_i hn
        have ro := Roots.freezes r2.out
        rw [en] at ro
        obtain ⟨v, rfl, ro'⟩ := ro.args1 (by rw [hl, ← frzs_len, en])
        have hn := rgOk_iff hn
        exact ⟨n, congrArg (fun x => [x]) ro'.fz, hn.1, hn.2, p H2 _ [] dwalk_range r2.drops⟩
      · exact p.elim
    · exact p.elim⟩
theorem di_range2 {tg : Expr} {p : Pos} (hg : Gl X "range") (hm : X.mg "range" = none) (ha : DA X G W [a, b] [none, none] fs) (hs : starEach [a, b] X.env = [(false, eval a X.env), (false, eval b X.env)] := by rfl) (hs2 : starEach [b] X.env = [(false, eval b X.env)] := by rfl) :
    DI X G W tg (.Call (.Name "range" p) [a, b] [] pos) (iArgs range2D fs) := fun gd =>
  (pi_range2 hg hm (ha gd) hs hs2).imp fun σ H R ⟨env, ex, r, h⟩ => ⟨env, ex, r, aft_more (l := []) (aft_bind h) fun ts e p H2 vs hl hs hsrc r2 => by
    unfold range2D at p
    split at p
    · rename_i i j en
      split at p
      · rename_i hn
        have ro := Roots.freezes r2.out
        rw [en] at ro
        obtain ⟨v, w, rfl, ro'⟩ := ro.args2 (by rw [hl, ← frzs_len, en])
        obtain ⟨h1, h2⟩ := Bool.and_eq_true_iff.mp hn
        have h1 := rgOk_iff h1
        have h2 := rgOk_iff h2
        have e1 : v = .int i := ro'.fz
        have e2 : w = .int j := ro'.drop.fz
        subst e1 e2
        exact ⟨i, j, rfl, ⟨h1.1, h1.2, h2.1, h2.2⟩, p H2 _ [] dwalk_range r2.drops⟩
      · exact p.elim
    · exact p.elim⟩
@[simp] def pairD (xs ys : List D) : List D := List.zipWith (fun x y => D.tup [x, y]) xs ys
@[simp] def zipD : List D → Option (List D)
  | [.lst xs, .lst ys] => some (pairD xs ys)
  | [.tup xs, .tup ys] => some (pairD xs ys)
  | _ => none
theorem Roots.two {H : Hp} {v w : V} {d d' : D} {rs : List (V × T)} (h : Roots Z H ((v, .fz d) :: (w, .fz d') :: rs)) {x y : V} {dx dy : D} (k : ∀ F, Rp Z F v d → Rp Z F w d' → Same F H → Rp Z F x dx ∧ Rp Z F y dy) :
    Roots Z H ((x, .fz dx) :: (y, .fz dy) :: (v, .fz d) :: (w, .fz d') :: rs) := by
  obtain ⟨F, _, s, ⟨f1, _, o1, ⟨f2, f3, o2, o3, rfl⟩, rfl⟩, n, q⟩ := h
  have e1 : f1 = [] := o1.2
  have e2 : f2 = [] := o2.2
  subst e1 e2
  obtain ⟨k1, k2⟩ := k F o1.1 o2.1 s
  exact ⟨F, f3, s, ⟨[], f3, ⟨k1, rfl⟩, ⟨[], f3, ⟨k2, rfl⟩, ⟨[], f3, o1, ⟨[], f3, o2, o3, rfl⟩, rfl⟩, rfl⟩, rfl⟩, n, q⟩
theorem pairD_get {xs ys : List D} {i : Nat} {d : D} (h : (pairD xs ys)[i]? = some d) : ∃ x y, xs[i]? = some x ∧ ys[i]? = some y ∧ d = .tup [x, y] := by
  unfold pairD at h
  rw [List.getElem?_zipWith] at h
  cases h1 : xs[i]? with
  | none => rw [h1] at h; cases h
  | some x =>
    cases h2 : ys[i]? with
    | none => rw [h1, h2] at h; cases h
    | some y => rw [h1, h2] at h; cases h; exact ⟨x, y, rfl, rfl, rfl⟩
theorem dwalk_zip {v w : V} {xs ys : List D} {p q : Addr} (ev : v = .ref p) (ew : w = .ref q) : DWalk Z (Itz Z.K p q) [(v, .fz (.lst xs)), (w, .fz (.lst ys))] (pairD xs ys) where
  go := fun i H rs hi ro => by
    obtain ⟨x, y, h1, h2, _⟩ := pairD_get (List.getElem?_eq_getElem hi)
    obtain ⟨p', vs, e, s, r⟩ := ro.fz
    rw [ev] at e; cases e
    obtain ⟨q', ws, e, s', r'⟩ := ro.drop.fz
    rw [ew] at e; cases e
    obtain ⟨x', ex, _⟩ := r.get h1
    obtain ⟨y', ey, _⟩ := r'.get h2
    exact ⟨vs, ws, x', y', s, s', ex, ey⟩
  stop := fun H rs ro => by
    obtain ⟨p', vs, e, s, r⟩ := ro.fz
    rw [ev] at e; cases e
    obtain ⟨q', ws, e, s', r'⟩ := ro.drop.fz
    rw [ew] at e; cases e
    refine ⟨vs, ws, s, s', ?_⟩
    rw [r.length, r'.length]
    simp [pairD]
    omega
  yld := fun i H H' x rs d hd ro y => by
    obtain ⟨T, x1, y1, rfl, nT, rfl, k1, k2⟩ := y
    obtain ⟨dx, dy, h1, h2, rfl⟩ := pairD_get hd
    refine Roots.newT (vs := [x1, y1]) (ds := [dx, dy]) rfl (Roots.two ro fun F r r' s => ?_) nT
    obtain ⟨p', vs, e, sq, r⟩ := r
    rw [ev] at e; cases e
    obtain ⟨q', ws, e, sq', r'⟩ := r'
    rw [ew] at e; cases e
    obtain ⟨a1, e1, q1⟩ := r.get h1
    obtain ⟨a2, e2, q2⟩ := r'.get h2
    rw [k1 vs (s.seq sq)] at e1
    rw [k2 ws (s.seq sq')] at e2
    cases e1; cases e2
    exact ⟨q1, q2⟩
theorem dwalk_zipT {v w : V} {xs ys : List D} {p q : Addr} (ev : v = .ref p) (ew : w = .ref q) : DWalk Z (RZ.ItzT Z.K p q) [(v, .fz (.tup xs)), (w, .fz (.tup ys))] (pairD xs ys) where
  go := fun i H rs hi ro => by
    obtain ⟨x, y, h1, h2, _⟩ := pairD_get (List.getElem?_eq_getElem hi)
    obtain ⟨p', vs, e, s, r⟩ := ro.fz
    rw [ev] at e; cases e
    obtain ⟨q', ws, e, s', r'⟩ := ro.drop.fz
    rw [ew] at e; cases e
    obtain ⟨x', ex, _⟩ := r.get h1
    obtain ⟨y', ey, _⟩ := r'.get h2
    exact ⟨vs, ws, x', y', s, s', ex, ey⟩
  stop := fun H rs ro => by
    obtain ⟨p', vs, e, s, r⟩ := ro.fz
    rw [ev] at e; cases e
    obtain ⟨q', ws, e, s', r'⟩ := ro.drop.fz
    rw [ew] at e; cases e
    refine ⟨vs, ws, s, s', ?_⟩
    rw [r.length, r'.length]
    simp [pairD]
    omega
  yld := fun i H H' x rs d hd ro y => by
    obtain ⟨T, x1, y1, rfl, nT, rfl, k1, k2⟩ := y
    obtain ⟨dx, dy, h1, h2, rfl⟩ := pairD_get hd
    refine Roots.newT (vs := [x1, y1]) (ds := [dx, dy]) rfl (Roots.two ro fun F r r' s => ?_) nT
    obtain ⟨p', vs, e, sq, r⟩ := r
    rw [ev] at e; cases e
    obtain ⟨q', ws, e, sq', r'⟩ := r'
    rw [ew] at e; cases e
    obtain ⟨a1, e1, q1⟩ := r.get h1
    obtain ⟨a2, e2, q2⟩ := r'.get h2
    rw [k1 vs (same_t s sq)] at e1
    rw [k2 ws (same_t s sq')] at e2
    cases e1; cases e2
    exact ⟨q1, q2⟩
theorem di_zip {p tpos : Pos} {elts : List Expr} {kk : Nat} (hg : Gl X "zip") (hm : X.mg "zip" = none) (ha : DA X G W [a, b] [none, none] fs) (hs : starEach [a, b] X.env = (false, eval a X.env) :: starEach [b] X.env := by rfl) (hpl : (backTo pos (starEach [b] X.env)).any (·.1) = false := by rfl) :
    DI X G W (.Tuple elts kk tpos) (.Call (.Name "zip" p) [a, b] [] pos) (iArgs zipD fs) := fun gd =>
  (RZ.pi_zipA hg hm (ha gd) hs hpl).imp fun σ H R ⟨env, ex, r, h⟩ => ⟨env, ex, r, aft_more (l := []) (aft_bind h) fun ts e p H2 vs hl hs hsrc r2 => by
    unfold zipD at p
    split at p
    · rename_i xs ys en
      have ro := Roots.freezes r2.out
      rw [en] at ro
      obtain ⟨v, w, rfl, ro'⟩ := ro.args2 (by rw [hl, ← frzs_len, en])
      obtain ⟨p1, vs, e1, s1, _⟩ := ro'.fz
      obtain ⟨p2, ws, e2, s2, _⟩ := ro'.drop.fz
      subst e1 e2
      rw [← gd.hK]
      exact ⟨p1, p2, vs, ws, rfl, .inl ⟨s1, s2, p H2 _ _ (dwalk_zip rfl rfl) (r2.back (l := [_, _]) ro')⟩⟩
    · rename_i xs ys en
      have ro := Roots.freezes r2.out
      rw [en] at ro
      obtain ⟨v, w, rfl, ro'⟩ := ro.args2 (by rw [hl, ← frzs_len, en])
      obtain ⟨p1, vs, e1, s1, _⟩ := ro'.fz
      obtain ⟨p2, ws, e2, s2, _⟩ := ro'.drop.fz
      subst e1 e2
      rw [← gd.hK]
      exact ⟨p1, p2, vs, ws, rfl, .inr ⟨s1, s2, p H2 _ _ (dwalk_zipT rfl rfl) (r2.back (l := [_, _]) ro')⟩⟩
    · exact p.elim⟩
/-! ### comprehensions -/
@[simp] def wipeE (e : Env) : List Nat → Env
  | [] => e
  | v :: vs => (wipeE e vs).set v none
def loopC (set : T → Env → Option Env) (tst : M Bool) (elt : M T) (vs : List Nat) : List D → List T → Env → R (List T)
  | [], acc, env => .ok acc env
  | d :: ds, acc, env => match set (.fz d) env with
    | none => .no
    | some e1 => match tst e1 with
      | .ok true e2 => (match elt e2 with
        | .ok t e3 => if acc.length < sizeLine then loopC set tst elt vs ds (acc ++ [t]) (wipeE e3 vs) else .no
        | _ => .no)
      | .ok false e2 => loopC set tst elt vs ds acc (wipeE e2 vs)
      | _ => .no
@[simp] def fLc (fi : M (List D)) (set : T → Env → Option Env) (tst : M Bool) (elt : M T) (vs : List Nat) (env : Env) : R T := (fi env).bind fun ds e => (loopC set tst elt vs ds [] (wipeE e vs)).bind fun acc e' => .ok (.lst acc) (wipeE e' vs)
abbrev W0 : WX := fun _ _ _ _ => False
theorem Rel.wipe1 {H : Hp} {σ : L2.St} {env : Env} {ex : List (V × T)} {i : Nat} (r : Rel G H σ env ex) (x : Option V) (ni : i ∉ G.io) : Rel G H (σ.set i x) (env.set i none) ex := by
  have r1 := r.forget (i := i)
  refine ⟨⟨by simpa using r.1.1, fun j t e => ?_⟩, ⟨by simpa using r.2.1.1, fun j hj => ?_⟩, by rw [slots_none]; exact r1.2.2⟩
  · by_cases h : i = j
    · subst h
      by_cases hl : i < env.length
      · rw [List.getElem?_set_self hl] at e; cases e
      · rw [List.getElem?_eq_none (by simpa using hl)] at e; cases e
    · rw [List.getElem?_set_ne h] at e ⊢
      exact r.1.2 j t e
  · rw [List.getElem?_set_ne (fun z => ni (by rw [z]; exact hj))]
    exact r.2.1.2 j hj
theorem Rel.wipe {H : Hp} {σ : L2.St} {env : Env} {ex : List (V × T)} : ∀ {vs : List Nat}, Rel G H σ env ex → (∀ i ∈ vs, i ∉ G.io) → Rel G H (wipe σ vs) (wipeE env vs) ex
  | [], r, _ => r
  | v :: vs, r, h => by
    have r1 := Rel.wipe (vs := vs) r fun i hi => h i (List.mem_cons_of_mem _ hi)
    exact r1.wipe1 none (h v (List.mem_cons_self ..))
theorem wipe_get {σ : L2.St} {vs : List Nat} {i : Nat} (h : i ∉ vs) : (wipe σ vs)[i]? = σ[i]? := by
  induction vs with
  | nil => rfl
  | cons v vs ih =>
    unfold wipe
    rw [List.getElem?_set_ne (fun z => h (by rw [z]; exact List.mem_cons_self ..))]
    exact ih fun z => h (List.mem_cons_of_mem _ z)
theorem wipe_in {σ : L2.St} {vs : List Nat} {i : Nat} (h : i ∈ vs) (hl : i < σ.length) : (wipe σ vs)[i]? = some none := by
  induction vs with
  | nil => cases h
  | cons v vs ih =>
    unfold wipe
    by_cases e : v = i
    · subst e
      rw [List.getElem?_set_self (by rw [wipe_length]; exact hl)]
    · rw [List.getElem?_set_ne e]
      rcases List.mem_cons.mp h with z | z
      · exact absurd z.symm e
      · exact ih z
theorem wipe_off {σ σ' : L2.St} {vs : List Nat} (h : Off vs (wipe σ vs) σ') : wipe σ' vs = wipe σ vs := by
  apply List.ext_getElem?
  intro i
  by_cases hi : i ∈ vs
  · by_cases hl : i < σ.length
    · rw [wipe_in hi hl, wipe_in hi (by rw [h.1, wipe_length]; exact hl)]
    · rw [List.getElem?_eq_none (by rw [wipe_length, h.1, wipe_length]; omega), List.getElem?_eq_none (by rw [wipe_length]; omega)]
  · rw [wipe_get hi, h.2 i hi]
theorem wipeE_set (e1 : Env) (u : Nat) (us : List Nat) : wipeE (e1.set u none) us = (wipeE e1 us).set u none := by
  induction us with
  | nil => rfl
  | cons k us ih2 =>
    unfold wipeE
    rw [ih2]
    by_cases h : k = u
    · subst h; rw [List.set_set]
    · rw [List.set_comm _ _ (fun z => h z.symm)]
/-- back to the slots as they were -/
theorem Rel.unwipe {H : Hp} {σ : L2.St} {env : Env} {ex : List (V × T)} {vs : List Nat} (r : Rel G H (L2.wipe σ vs) env ex) (hio : ∀ i ∈ vs, i ∉ G.io) : Rel G H σ (wipeE env vs) ex := by
  have key : ∀ (us : List Nat) (σ1 : L2.St) (e1 : Env), (∀ i ∈ us, i ∉ G.io) → Rel G H (L2.wipe σ1 us) e1 ex → Rel G H σ1 (wipeE e1 us) ex := by
    intro us
    induction us with
    | nil => exact fun _ _ _ r => r
    | cons u us ih =>
      intro σ1 e1 hu r
      have r : Rel G H ((L2.wipe σ1 us).set u none) e1 ex := r
      have r1 := r.wipe1 ((L2.wipe σ1 us)[u]?.getD none) (hu u (List.mem_cons_self ..))
      rw [List.set_set] at r1
      have e2 : (L2.wipe σ1 us).set u ((L2.wipe σ1 us)[u]?.getD none) = L2.wipe σ1 us := by
        cases q : (L2.wipe σ1 us)[u]? with
        | none => exact List.set_eq_of_length_le (List.getElem?_eq_none_iff.mp q)
        | some o => exact set_self q
      rw [e2] at r1
      have r2 := ih σ1 (e1.set u none) (fun i hi => hu i (List.mem_cons_of_mem _ hi)) r1
      have e3 : wipeE (e1.set u none) us = (wipeE e1 us).set u none := by
        exact wipeE_set ..
      rw [e3] at r2
      exact r2
  exact key vs σ env hio r
theorem rd_lc {fi : M (List D)} {set : T → Env → Option Env} {tst : M Bool} {elt : M T} {ws vs : List Nat} (hv : ∀ i ∈ ws, i ∈ vs) (hio : ∀ i ∈ vs, i ∉ G.io) (σ : L2.St) (H : Hp) (Q : VK) (h : rdE G W (fLc fi set tst elt vs) σ H Q) :
    tLc (rdI G W fi) (rdG G ws set) (rdT G W0 tst) (rdE G W0 elt) vs σ H Q := by
  obtain ⟨env, ex, r, h⟩ := h
  refine ⟨env, ex, r, ?_⟩
  unfold fLc at h
  cases e1 : fi env with
  | no => rw [e1] at h; exact h.elim
  | ex x e => rw [e1] at h; exact h
  | ok ds e =>
    rw [e1] at h
    intro H1 J ks w r1 D nD
    have h : Aft (XOk G W σ ex) (fun t e => ∀ H' v, Rel G H' σ e ((v, t) :: ex) → Q v H') ((loopC set tst elt vs ds [] (wipeE e vs)).bind fun acc e' => .ok (.lst acc) (wipeE e' vs)) := h
    refine ⟨fun i m H => i ≤ ds.length ∧ m = ds.length - i ∧ ∃ env acc, Rel G H (wipe σ vs) env ((.ref D, .lst acc) :: (ks ++ ex)) ∧
      Aft (XOk G W σ ex) (fun t e => ∀ H' v, Rel G H' σ e ((v, t) :: ex) → Q v H') ((loopC set tst elt vs (ds.drop i) acc env).bind fun acc e' => .ok (.lst acc) (wipeE e' vs)),
      ⟨_, Nat.zero_le _, rfl, wipeE e vs, [], ?_, h⟩, ?_⟩
    · have r2 := r1.wipe hio
      exact r2.back1 (Roots.newL (vs := []) (ts := []) rfl r2.2.2 nD)
    · rintro i m H ⟨hi, rfl, env, acc, r, h⟩
      by_cases hlt : i < ds.length
      · have ed : ds[i]? = some ds[i] := List.getElem?_eq_getElem hlt
        rw [List.drop_eq_getElem_cons hlt] at h
        have rk : Rel G H (wipe σ vs) env (ks ++ ((.ref D, .lst acc) :: ex)) := r.perm List.perm_middle.symm
        refine .inr ⟨w.go i H _ hlt rk.out, fun H' => ∃ env acc, Rel G H' (wipe σ vs) env ((.ref D, .lst acc) :: (ks ++ ex)) ∧
          Aft (XOk G W σ ex) (fun t e => ∀ H' v, Rel G H' σ e ((v, t) :: ex) → Q v H') ((loopC set tst elt vs (ds.drop (i + 1)) acc env).bind fun acc e' => .ok (.lst acc) (wipeE e' vs)),
          fun H' q => ⟨ds.length - (i + 1), by omega, hlt, rfl, q⟩, fun x H2 y => ?_⟩
        have r2 : Rel G H2 (wipe σ vs) env ((x, .fz ds[i]) :: (ks ++ ((.ref D, .lst acc) :: ex))) := rk.back (l := (x, .fz ds[i]) :: ks) (w.yld i H H2 x _ _ ed rk.out y)
        unfold loopC at h
        split at h
        · exact h.elim
        · rename_i env2 e2
          refine ⟨env, ks ++ ((.ref D, .lst acc) :: ex), .fz ds[i], r2, env2, e2, fun σ2 H3 off r3 => ⟨wipe_off (off.mono hv), env2, _, r3, ?_⟩⟩
          have wo := wipe_off (off.mono hv)
          split at h
          · rename_i e3 et
            rw [et]
            intro H4 r4
            show (if true = true then _ else _)
            rw [if_pos rfl]
            refine ⟨e3, _, r4, ?_⟩
            split at h
            · rename_i t e4 ee
              rw [ee]
              intro H5 v r5
              split at h
              · rename_i hz
                have r6 : Rel G H5 σ2 e4 ((.ref D, .lst acc) :: (v, t) :: (ks ++ ex)) := r5.perm (((List.perm_middle (l₁ := ks)).cons _).trans (.swap ..))
                obtain ⟨pp, ws', eq, hp, hl⟩ := r6.out1.lst
                cases eq
                refine ⟨ws', hp, by rw [hl]; exact hz, wipeE e4 vs, acc ++ [t], ?_, h⟩
                have ro := Rel.out (l := [(V.ref D, T.lst acc), (v, t)]) r6
                have r7 : Rel G _ σ2 e4 ((.ref D, .lst (acc ++ [t])) :: (ks ++ ex)) := r6.back1 (Roots.appL ro hp hl)
                have r8 := r7.wipe hio
                rw [wo] at r8
                exact r8
              · exact h.elim
            · exact h.elim
          · rename_i e3 et
            rw [et]
            intro H4 r4
            show (if false = true then _ else _)
            rw [if_neg Bool.false_ne_true]
            refine ⟨wipeE e3 vs, acc, ?_, h⟩
            have r6 : Rel G H4 σ2 e3 ((.ref D, .lst acc) :: (ks ++ ex)) := r4.perm List.perm_middle
            have r8 := r6.wipe hio
            rw [wo] at r8
            exact r8
          · exact h.elim
      · have ei : i = ds.length := by omega
        subst ei
        rw [List.drop_length] at h
        have rk : Rel G H (wipe σ vs) env (ks ++ ((.ref D, .lst acc) :: ex)) := r.perm List.perm_middle.symm
        exact .inl ⟨w.stop H _ rk.out, h H _ (rk.drops.unwipe hio)⟩
theorem good_blk (gd : Good X G W) (s : Shared) (H : Hp) (scope : Scope) (cenv : PySem.Env) (fp : List Addr) : Good (X.blk s H scope cenv fp) G W0 := ⟨gd.hK, takes0, gd.calm, gd.nd, PassesOwn.never⟩
def DTs (X : Cx) (G : Sg) (W : WX) (ifs : List Expr) (f : M Bool) : Prop := Good X G W → PTs X ifs (rdT G W f)
@[simp] def fYes (env : Env) : R Bool := .ok true env
theorem dts_nil : DTs X G W [] fYes := fun gd => ⟨fun pins s σ H Q I ⟨env, ex, r, h⟩ => pts_nil.run pins s σ H Q I (h H r)⟩
theorem dts_one {gc : M Bool} (h : DT X G W c gc) : DTs X G W [c] gc := fun gd => pts_one (h gd)
theorem de_lc {elt tg iter : Expr} {ifs : List Expr} {scope : Scope} {own : List (Str × Nat)} {fi : M (List D)} {set : T → Env → Option Env} {tst : M Bool} {fe : M T} {ws : List Nat} (hi : DI X G W tg iter fi) (ok : BlkOk X.N X.env.scope scope own)
    (hg : ∀ (s : Shared) (H : Hp) (C : Addr) (cl : List (Str × Addr)) (fp : List Addr), DG (X.blk s H scope (compEnvC scope cl C X.env) fp) G W0 tg ws set) (ht : ∀ (s : Shared) (H : Hp) (C : Addr) (cl : List (Str × Addr)) (fp : List Addr), DTs (X.blk s H scope (compEnvC scope cl C X.env) fp) G W0 ifs tst)
    (he : ∀ (s : Shared) (H : Hp) (C : Addr) (cl : List (Str × Addr)) (fp : List Addr), DE (X.blk s H scope (compEnvC scope cl C X.env) fp) G W0 elt fe) (hv : ∀ i ∈ ws, i ∈ own.map (·.2)) (hio : ∀ i ∈ own.map (·.2), i ∉ G.io) (hs : ∀ x, foldedSetIterable iter X.env x = pure x := by intro _; rfl) (hh : G.hot = false := by rfl) :
    DE X G W (.ListComp elt [⟨tg, iter, ifs, 0⟩] scope pos) (fLc fi set tst fe (own.map (·.2))) := fun gd =>
  (pe_lc (gd.calm hh) gd.nd (hi gd) ok (fun s H C cl fp => hg s H C cl fp (good_blk gd ..)) (fun s H C cl fp => ht s H C cl fp (good_blk gd ..)) (fun s H C cl fp => he s H C cl fp (good_blk gd ..)) hs).imp (rd_lc hv hio)
theorem ds_setLc {i : Nat} {y : Str} {py spos : Pos} {elt tg iter : Expr} {ifs : List Expr} {scope : Scope} {own : List (Str × Nat)} {fi : M (List D)} {set : T → Env → Option Env} {tst : M Bool} {fe : M T} {ws : List Nat} (hy : X.N[i]? = some y) (hyl : X.env.scope.names.lookup y = some .local) (hn : i < G.n) (ni : i ∉ G.io)
    (hsw : swapsWith (.ListComp elt [⟨tg, iter, ifs, 0⟩] scope pos) (some (.Name y py)) spos.line X.env = pure true) (hi : DI X G W tg iter fi) (ok : BlkOk X.N X.env.scope scope own)
    (hg : ∀ (s : Shared) (H : Hp) (C : Addr) (cl : List (Str × Addr)) (fp : List Addr), DG (X.blk s H scope (compEnvC scope cl C X.env) fp) G W0 tg ws set) (ht : ∀ (s : Shared) (H : Hp) (C : Addr) (cl : List (Str × Addr)) (fp : List Addr), DTs (X.blk s H scope (compEnvC scope cl C X.env) fp) G W0 ifs tst)
    (he : ∀ (s : Shared) (H : Hp) (C : Addr) (cl : List (Str × Addr)) (fp : List Addr), DE (X.blk s H scope (compEnvC scope cl C X.env) fp) G W0 elt fe) (hv : ∀ i ∈ ws, i ∈ own.map (·.2)) (hio : ∀ i ∈ own.map (·.2), i ∉ G.io) (hs : ∀ x, foldedSetIterable iter X.env x = pure x := by intro _; rfl) (hh : G.hot = false := by rfl) :
    DS X G W (.Assign [.Name y py] (.ListComp elt [⟨tg, iter, ifs, 0⟩] scope pos) spos) (fSet i (fLc fi set tst fe (own.map (·.2)))) := fun gd =>
  (ps_setLc (gd.calm hh) gd.nd hy hyl hsw (hi gd) ok (fun s H C cl fp => hg s H C cl fp (good_blk gd ..)) (fun s H C cl fp => ht s H C cl fp (good_blk gd ..)) (fun s H C cl fp => he s H C cl fp (good_blk gd ..)) hs).imp fun D σ H ⟨env, ex, r, h⟩ =>
    rd_lc hv hio σ H _ (rd_s r h fun H' v t e r' h' => h' _ H' (r'.store hn ni))
/-! ### list(x), tuple(x) -/
@[simp] def gList : D → Option T
  | .lst ds => some (.lst (ds.map T.fz))
  | .tup ds => some (.lst (ds.map T.fz))
  | _ => none
@[simp] def gTuple : D → Option T
  | .lst ds => some (.fz (.tup ds))
  | .tup ds => some (.fz (.tup ds))
  | _ => none
theorem Roots.items {H : Hp} {v : V} {d : D} {ds : List D} {rs : List (V × T)} (h : Roots Z H ((v, .fz d) :: rs)) {vs : List V} (k : ∀ F, Rp Z F v d → Same F H → Rps Z F vs ds) : Roots Z H (vs.zip (ds.map T.fz) ++ rs) := by
  obtain ⟨F, _, s, ⟨f1, f2, o1, o2, rfl⟩, n, q⟩ := h
  have e : f1 = [] := o1.2
  subst e
  have all : ∀ {vs : List V} {ds : List D}, Rps Z F vs ds → OwnR Z F H (vs.zip (ds.map T.fz)) [] := by
    intro vs
    induction vs with
    | nil => intro ds h; cases ds <;> rfl
    | cons v vs ih =>
      intro ds h
      cases ds with
      | nil => exact h.elim
      | cons d ds => exact ⟨[], [], ⟨h.1, rfl⟩, ih h.2, rfl⟩
  exact ⟨F, f2, s, (all (k F o1.1 s)).append o2, n, q⟩
theorem Roots.openL {H : Hp} {v : V} {ds : List D} {rs : List (V × T)} (h : Roots Z H ((v, .fz (.lst ds)) :: rs)) : ∃ p vs, v = .ref p ∧ SqL Z.K H p vs ∧ vs.length = ds.length ∧ Roots Z H (vs.zip (ds.map T.fz) ++ rs) := by
  obtain ⟨F, f, s, o, n, q⟩ := h
  obtain ⟨f1, f2, o1, o2, rfl⟩ := id o
  obtain ⟨⟨p, vs, e, sq, r⟩, e1⟩ := o1
  subst e1
  refine ⟨p, vs, e, s.seq sq, r.length, ?_⟩
  have all : ∀ {vs : List V} {ds : List D}, Rps Z F vs ds → OwnR Z F H (vs.zip (ds.map T.fz)) [] := by
    intro vs
    induction vs with
    | nil => intro ds h; cases ds <;> rfl
    | cons v vs ih =>
      intro ds h
      cases ds with
      | nil => exact h.elim
      | cons d ds => exact ⟨[], [], ⟨h.1, rfl⟩, ih h.2, rfl⟩
  exact ⟨F, f2, s, (all r).append o2, n, q⟩
theorem Roots.openT {H : Hp} {v : V} {ds : List D} {rs : List (V × T)} (h : Roots Z H ((v, .fz (.tup ds)) :: rs)) : ∃ p vs, v = .ref p ∧ SqT Z.K H p vs ∧ vs.length = ds.length ∧ Roots Z H (vs.zip (ds.map T.fz) ++ rs) := by
  obtain ⟨F, f, s, o, n, q⟩ := h
  obtain ⟨f1, f2, o1, o2, rfl⟩ := id o
  obtain ⟨⟨p, vs, e, sq, r⟩, e1⟩ := o1
  subst e1
  refine ⟨p, vs, e, same_t s sq, r.length, ?_⟩
  have all : ∀ {vs : List V} {ds : List D}, Rps Z F vs ds → OwnR Z F H (vs.zip (ds.map T.fz)) [] := by
    intro vs
    induction vs with
    | nil => intro ds h; cases ds <;> rfl
    | cons v vs ih =>
      intro ds h
      cases ds with
      | nil => exact h.elim
      | cons d ds => exact ⟨[], [], ⟨h.1, rfl⟩, ih h.2, rfl⟩
  exact ⟨F, f2, s, (all r).append o2, n, q⟩
theorem cd_list (hK : Z.K = X.K) : CallD X Z (.type "list") (g1 gList) := cd_1 call_list_of fun H rs v d t Q ro e k => by
  rw [← hK]
  unfold gList at e
  split at e
  · cases e
    obtain ⟨p, vs, rfl, sq, hl, ro'⟩ := ro.openL
    exact ⟨p, vs, rfl, .inl sq, fun l nl => k _ _ (Roots.newL (by simpa using hl) ro' nl)⟩
  · cases e
    obtain ⟨p, vs, rfl, sq, hl, ro'⟩ := ro.openT
    exact ⟨p, vs, rfl, .inr sq, fun l nl => k _ _ (Roots.newL (by simpa using hl) ro' nl)⟩
  · cases e
theorem cd_tuple (hK : Z.K = X.K) : CallD X Z (.type "tuple") (g1 gTuple) := cd_1 call_tuple_of fun H rs v d t Q ro e k => by
  rw [← hK]
  unfold gTuple at e
  split at e
  · cases e
    obtain ⟨p, vs, rfl, sq, hl, ro'⟩ := ro.openL
    exact ⟨p, vs, rfl, .inl ⟨sq, fun l nl => k _ _ (Roots.newT hl ro' nl)⟩⟩
  · cases e
    obtain ⟨p, vs, e1, sq, hl, ro'⟩ := ro.openT
    subst e1
    exact ⟨p, vs, rfl, .inr ⟨sq, k _ _ ro⟩⟩
  · cases e
/-! ### isinstance with built-in classes -/
@[simp] def tyD : D → Option String
  | .int _ => some "int"
  | .bl _ => some "bool"
  | .str _ => some "str"
  | .non => some "NoneType"
  | .lst _ => some "list"
  | .tup _ => some "tuple"
  | .dic _ _ => some "dict"
  | _ => none
def isiB (a b : String) : Option Bool := if a = b then some true else if a = "bool" ∧ b = "int" then some true else if b ∈ ["int", "bool", "str", "list", "tuple", "dict"] then some false else none
@[simp] def gIsi : D → D → Option T
  | d, .ty n => (tyD d).bind fun a => (isiB a n).map fun k => .fz (.bl k)
  | _, _ => none
theorem isiB_ok : ∀ a ∈ ["int", "bool", "str", "NoneType", "list", "tuple", "dict"], ∀ b ∈ ["int", "bool", "str", "list", "tuple", "dict"], kitB a b = isiB a b := by decide +kernel
theorem isiB_some {a b : String} {r : Bool} (ha : a ∈ ["int", "bool", "str", "NoneType", "list", "tuple", "dict"]) (h : isiB a b = some r) : kitB a b = some r := by
  by_cases hb : b ∈ ["int", "bool", "str", "list", "tuple", "dict"]
  · rw [isiB_ok a ha b hb]; exact h
  · unfold isiB at h
    by_cases e : a = b
    · subst e
      rw [if_pos rfl] at h
      cases h
      unfold kitB
      rw [if_pos (by simp)]
    · rw [if_neg e] at h
      by_cases e2 : a = "bool" ∧ b = "int"
      · exact absurd (by rw [e2.2]; simp) hb
      · rw [if_neg e2, if_neg hb] at h
        cases h
theorem tyD_ok {H : Hp} {v : V} {d : D} {n : String} (r : Rp Z H v d) (h : tyD d = some n) : TyX Z.K H v (.type n) ∧ n ∈ ["int", "bool", "str", "NoneType", "list", "tuple", "dict"] := by
  unfold tyD at h
  split at h <;> cases h
  · cases r; exact ⟨.base (.int _), by simp⟩
  · cases r; exact ⟨.base (.bl _), by simp⟩
  · cases r; exact ⟨.base (.str _), by simp⟩
  · cases r; exact ⟨.base .non, by simp⟩
  · obtain ⟨a, vs, rfl, q, _⟩ := r
    refine ⟨?_, by simp⟩
    rcases q with (q | ⟨o, q⟩) | ⟨o, its, n, hk, hc, _⟩
    · exact .base (.lst q)
    · exact .base (.frz q)
    · exact .kList hk hc
  · obtain ⟨a, vs, rfl, q, _⟩ := r
    refine ⟨?_, by simp⟩
    rcases q with (q | ⟨o, q⟩) | ⟨o, its, n, hk, hc, _⟩
    · exact .base (.tup q)
    · exact .fTuple q
    · exact .kTuple hk hc
  · obtain ⟨a, kvs, rfl, q, _⟩ := r
    exact ⟨.base (.dK q), by simp⟩
theorem cd_isi (hK : Z.K = X.K) : CallD X Z (.builtin "isinstance") (g2 gIsi) := cd_2 call_isi fun H rs v w d d' t Q ro e k => by
  rw [← hK]
  unfold gIsi at e
  split at e
  · rename_i n
    obtain ⟨a, e1, e2⟩ := Option.bind_eq_some_iff.mp e
    obtain ⟨b, e3, rfl⟩ := Option.map_eq_some_iff.mp e2
    obtain ⟨ty, hm⟩ := tyD_ok ro.fz e1
    have ew : w = .ty n := ro.drop.fz
    subst ew
    exact ⟨v, .ty n, _, _, b, rfl, .ty n, ty, kit_ty (isiB_some hm e3), k _ _ (Roots.add ro.drop2 fun _ => rfl)⟩
  · cases e
theorem de_ty {x : Str} {n : String} (hg : Gl X x) (hm : X.mg x = none) (hv : bootBuiltins x = some (.type n)) (hn : x ≠ "__name__" := by decide) (hd : (x == ("__debug__" : Str)) = false := by decide) : DE X G W (.Name x pos) (fC (.ty n)) := de_const (pe_bltn (v := .ty n) hg hm hv rfl hn hd) fun _ => rfl
end
end DL

set_option maxHeartbeats 4000000
namespace DL
open PySem PySem.Spec PyProof.Rows L2
theorem bt_len : bootBuiltins "len" = some (.builtin "len") := by decide +kernel
theorem bt_abs : bootBuiltins "abs" = some (.builtin "abs") := by decide +kernel
theorem bt_isinstance : bootBuiltins "isinstance" = some (.builtin "isinstance") := by decide +kernel
theorem bt_int : bootBuiltins "int" = some (.type "int") := by decide +kernel
theorem bt_list : bootBuiltins "list" = some (.type "list") := by decide +kernel
theorem bt_tuple : bootBuiltins "tuple" = some (.type "tuple") := by decide +kernel
theorem bt_bool : bootBuiltins "bool" = some (.type "bool") := by decide +kernel
theorem bt_str : bootBuiltins "str" = some (.type "str") := by decide +kernel
theorem bt_dict : bootBuiltins "dict" = some (.type "dict") := by decide +kernel
section
variable {X : Cx} {G : Sg} {W : WX} {a b c e : Expr} {es : List Expr} {fa fb fc : M T} {fs : M (List T)} {src : List (Option Nat)} {pos p : Pos}
theorem lt_b {i n : Nat} (h : Nat.blt i n = true) : i < n := by simpa [Nat.blt_eq] using h
theorem io_b {i : Nat} {io : List Nat} (h : io.contains i = false) : i ∉ io := fun z => by
  have : io.contains i = true := List.contains_iff_mem.mpr z
  rw [this] at h; cases h
theorem ios_b {vs io : List Nat} (h : (vs.all fun i => !io.contains i) = true) : ∀ i ∈ vs, i ∉ io := fun i hi => by
  have := List.all_eq_true.mp h i hi
  exact io_b (by simpa using this)
theorem in_b {vs ws : List Nat} (h : (ws.all fun i => vs.contains i) = true) : ∀ i ∈ ws, i ∈ vs := fun i hi => List.contains_iff_mem.mp (List.all_eq_true.mp h i hi)
theorem dlc {elt tg iter : Expr} {ifs : List Expr} {scope : Scope} (own : List (Str × Nat)) {fi : M (List D)} {set : T → Env → Option Env} {tst : M Bool} {fe : M T} {ws : List Nat} (hi : DI X G W tg iter fi) (ok : blkC X.N X.env.scope scope own = true)
    (hg : ∀ (s : Shared) (H : Hp) (C : Addr) (cl : List (Str × Addr)) (fp : List Addr), DG (X.blk s H scope (compEnvC scope cl C X.env) fp) G W0 tg ws set) (ht : ∀ (s : Shared) (H : Hp) (C : Addr) (cl : List (Str × Addr)) (fp : List Addr), DTs (X.blk s H scope (compEnvC scope cl C X.env) fp) G W0 ifs tst)
    (he : ∀ (s : Shared) (H : Hp) (C : Addr) (cl : List (Str × Addr)) (fp : List Addr), DE (X.blk s H scope (compEnvC scope cl C X.env) fp) G W0 elt fe) (hv : (ws.all fun i => (own.map (·.2)).contains i) = true := by rfl) (hio : ((own.map (·.2)).all fun i => !G.io.contains i) = true := by rfl) (hs : ∀ x, foldedSetIterable iter X.env x = pure x := by intro _; rfl) (hh : G.hot = false := by rfl) :
    DE X G W (.ListComp elt [⟨tg, iter, ifs, 0⟩] scope pos) (fLc fi set tst fe (own.map (·.2))) := de_lc hi (blkOk_by ok) hg ht he (in_b hv) (ios_b hio) hs hh
theorem dsetLc (i : Nat) {y : Str} {py spos : Pos} {elt tg iter : Expr} {ifs : List Expr} {scope : Scope} (own : List (Str × Nat)) {fi : M (List D)} {set : T → Env → Option Env} {tst : M Bool} {fe : M T} {ws : List Nat} (hi : DI X G W tg iter fi) (ok : blkC X.N X.env.scope scope own = true)
    (hg : ∀ (s : Shared) (H : Hp) (C : Addr) (cl : List (Str × Addr)) (fp : List Addr), DG (X.blk s H scope (compEnvC scope cl C X.env) fp) G W0 tg ws set) (ht : ∀ (s : Shared) (H : Hp) (C : Addr) (cl : List (Str × Addr)) (fp : List Addr), DTs (X.blk s H scope (compEnvC scope cl C X.env) fp) G W0 ifs tst)
    (he : ∀ (s : Shared) (H : Hp) (C : Addr) (cl : List (Str × Addr)) (fp : List Addr), DE (X.blk s H scope (compEnvC scope cl C X.env) fp) G W0 elt fe) (ha : (scope.names.any fun (n, k) => n == y && (k == .local || k == .cell)) = false) (hy : X.N[i]? = some y := by rfl) (hyl : X.env.scope.names.lookup y = some .local := by rfl)
    (hn : Nat.blt i G.n = true := by rfl) (ni : G.io.contains i = false := by rfl) (hk : X.env.scope.kind = .function := by rfl) (hl : (py.line == pos.line) = true := by rfl)
    (hv : (ws.all fun i => (own.map (·.2)).contains i) = true := by rfl) (hio : ((own.map (·.2)).all fun i => !G.io.contains i) = true := by rfl) (hs : ∀ x, foldedSetIterable iter X.env x = pure x := by intro _; rfl) (hh : G.hot = false := by rfl) :
    DS X G W (.Assign [.Name y py] (.ListComp elt [⟨tg, iter, ifs, 0⟩] scope pos) spos) (fSet i (fLc fi set tst fe (own.map (·.2)))) := ds_setLc hy hyl (lt_b hn) (io_b ni) (sw_true hk hyl hl ha) hi (blkOk_by ok) hg ht he (in_b hv) (ios_b hio) hs hh
/-- a name in slot i -/
theorem dv (i : Nat) {x : Str} {pos : Pos} (hN : X.N[i]? = some x := by rfl) (hv : Vis X.env.scope x := by first | exact Or.inl rfl | exact Or.inr (Or.inl rfl) | exact Or.inr (Or.inr rfl)) (hd : (x == ("__debug__" : Str)) = false := by decide)
    (hcd : (x == ("__classdict__" : Str)) = false := by decide) : DE X G W (.Name x pos) (fVar i) := de_var hN hv hd hcd
theorem dpeek (i : Nat) {x : Str} {p : Pos} (hb : DE X G W b fb) (hN : X.N[i]? = some x := by rfl) (hv : Vis X.env.scope x := by first | exact Or.inl rfl | exact Or.inr (Or.inl rfl) | exact Or.inr (Or.inr rfl)) (hs : PlainIx b := by exact fun _ _ => rfl)
    (hd : (x == ("__debug__" : Str)) = false := by decide) (hcd : (x == ("__classdict__" : Str)) = false := by decide) : DE X G W (.Subscript (.Name x p) b pos) (fPeek i fb) := de_peek hN hv hb hs hd hcd
theorem dmove (i : Nat) {x : Str} {pos : Pos} (hr : DA X G W es src fs) (hN : X.N[i]? = some x := by rfl) (hv : Vis X.env.scope x := by first | exact Or.inl rfl | exact Or.inr (Or.inl rfl) | exact Or.inr (Or.inr rfl)) (hs : starEach (.Name x pos :: es) X.env = (false, eval (.Name x pos) X.env) :: starEach es X.env := by rfl)
    (hd : (x == ("__debug__" : Str)) = false := by decide) (hcd : (x == ("__classdict__" : Str)) = false := by decide) : DA X G W (.Name x pos :: es) (some i :: src) (fMove i fs) := da_move hN hv hr hs hd hcd
theorem dset (i : Nat) {x : Str} {pos' : Pos} (he : DE X G W e fa) (hi : X.N[i]? = some x := by rfl) (hx : Loc X.env.scope x := by first | exact Or.inl rfl | exact Or.inr rfl) (hn : Nat.blt i G.n = true := by rfl) (ni : G.io.contains i = false := by rfl) (hs : swapsWith e (some (.Name x pos')) pos.line X.env = pure false := by rfl)
    (hf : X.fn x = true ∨ X.env.scope.names.lookup x = some .local := by first | exact .inl rfl | exact .inr rfl | assumption) : DS X G W (.Assign [.Name x pos'] e pos) (fSet i fa) := ds_set hi hx (lt_b hn) (io_b ni) he hs hf
theorem dname (i : Nat) {x : Str} (hi : X.N[i]? = some x := by rfl) (hx : Loc X.env.scope x := by first | exact Or.inl rfl | exact Or.inr rfl) (hn : Nat.blt i G.n = true := by rfl) (ni : G.io.contains i = false := by rfl)
    (hf : X.fn x = true ∨ X.env.scope.names.lookup x = some .local := by first | exact .inl rfl | exact .inr rfl | assumption) : DG X G W (.Name x pos) [i] (sName i) := dg_name hi hx (lt_b hn) (io_b ni) hf
theorem dput (i : Nat) {x : Str} {p : Pos} (hb : DE X G W b fb) (hN : X.N[i]? = some x := by rfl) (hv : Vis X.env.scope x := by first | exact Or.inl rfl | exact Or.inr (Or.inl rfl) | exact Or.inr (Or.inr rfl)) (ha : ∀ v, assign (.Subscript (.Name x p) b pos) X.env v = (do
      let ov ← holding [v] (eval (.Name x p) X.env)
      let iv ← holding [v, ov] (eval b X.env)
      standAt pos
      holding [v, ov, iv] (setItem ov iv v)
      release [v, ov, iv] []) := by intro _; rfl) (hd : (x == ("__debug__" : Str)) = false := by decide) (hcd : (x == ("__classdict__" : Str)) = false := by decide) :
    DG X G W (.Subscript (.Name x p) b pos) [] (sPut i fb) := dg_put hN hv hb ha hd hcd
theorem dpar (i j : Nat) {x y : Str} {px py pt : Pos} {kt k2 pt2} (ha : DA X G W [a, b] [none, none] fs) (hi : X.N[i]? = some x := by rfl) (hj : X.N[j]? = some y := by rfl) (hij : i ≠ j := by decide) (ni : Nat.blt i G.n = true := by rfl) (nj : Nat.blt j G.n = true := by rfl) (oi : G.io.contains i = false := by rfl) (oj : G.io.contains j = false := by rfl)
    (hx : X.env.scope.names.lookup x = some .local := by rfl) (hy : X.env.scope.names.lookup y = some .local := by rfl)
    (hw : swappedStores [.Tuple [.Name x px, .Name y py] kt pt] (.Tuple [a, b] k2 pt2) X.env = pure (some [x, y]) := by rfl)
    (hs : swapsWithSole [.Tuple [.Name x px, .Name y py] kt pt] (.Tuple [a, b] k2 pt2) pos.line X.env = pure false := by rfl) (hh : G.hot = false := by rfl) :
    DS X G W (.Assign [.Tuple [.Name x px, .Name y py] kt pt] (.Tuple [a, b] k2 pt2) pos) (fPar i j fs) := ds_par hi hj hij (lt_b ni) (lt_b nj) (io_b oi) (io_b oj) hx hy ha hw hs hh
theorem dappend (i : Nat) {x : Str} {p apos : Pos} (ha : DE X G W a fa) (hN : X.N[i]? = some x := by rfl) (hv : Vis X.env.scope x := by first | exact Or.inl rfl | exact Or.inr (Or.inl rfl) | exact Or.inr (Or.inr rfl)) (hd : (x == ("__debug__" : Str)) = false := by decide) (hcd : (x == ("__classdict__" : Str)) = false := by decide)
    (hsa : starEach [a] X.env = (false, eval a X.env) :: starEach [] X.env := by rfl) (hbase : attributeBase (.Name x p) "append" X.env (eval (.Name x p) X.env) = eval (.Name x p) X.env := by rfl)
    (hfew : ((backTo pos (starEach [a] X.env)).all (fun x => !x.1) && (backToKw pos (keywordEach [] X.env)).all (fun x => x.1.isSome)
      && decide ([a].length + ([] : List Keyword).length + (if ([] : List Keyword).isEmpty then 0 else 1) < 30)) = true := by rfl)
    (hline : (apos.endLine == pos.line) = true := by rfl) : DE X G W (.Call (.Attribute (.Name x p) "append" apos) [a] [] pos) (fAppend i fa) := de_append hN hv ha hd hcd hsa hbase hfew hline
/-! built-ins -/
theorem c_len (hm : X.mg "len" = none) (ha : DA X G W [a] src fs) (hg : Gl X "len" := by rfl) (he : starEach [a] X.env = (false, eval a X.env) :: starEach [] X.env := by rfl) : DE X G W (.Call (.Name "len" p) [a] [] pos) (fCB (g1 gLen) fs) := fun gd => (de_callB (cd_len gd.hK) hg hm bt_len ha (he := he)) gd
theorem c_abs (hm : X.mg "abs" = none) (ha : DA X G W [a] src fs) (hg : Gl X "abs" := by rfl) (he : starEach [a] X.env = (false, eval a X.env) :: starEach [] X.env := by rfl) : DE X G W (.Call (.Name "abs" p) [a] [] pos) (fCB (g1 gAbs) fs) := de_callB cd_abs hg hm bt_abs ha (he := he)
theorem c_int (hm : X.mg "int" = none) (ha : DA X G W [a] src fs) (hg : Gl X "int" := by rfl) (he : starEach [a] X.env = (false, eval a X.env) :: starEach [] X.env := by rfl) : DE X G W (.Call (.Name "int" p) [a] [] pos) (fCB (g1 gInt) fs) := de_callTy cd_int hg hm bt_int ha (he := he)
theorem c_list (hm : X.mg "list" = none) (ha : DA X G W [a] src fs) (hg : Gl X "list" := by rfl) (he : starEach [a] X.env = (false, eval a X.env) :: starEach [] X.env := by rfl) : DE X G W (.Call (.Name "list" p) [a] [] pos) (fCB (g1 gList) fs) := fun gd => (de_callTy (cd_list gd.hK) hg hm bt_list ha (he := he)) gd
theorem c_tuple (hm : X.mg "tuple" = none) (ha : DA X G W [a] src fs) (hg : Gl X "tuple" := by rfl) (he : starEach [a] X.env = (false, eval a X.env) :: starEach [] X.env := by rfl) : DE X G W (.Call (.Name "tuple" p) [a] [] pos) (fCB (g1 gTuple) fs) := fun gd => (de_callTy (cd_tuple gd.hK) hg hm bt_tuple ha (he := he)) gd
theorem c_isinstance (hm : X.mg "isinstance" = none) (ha : DA X G W [a, b] src fs) (hg : Gl X "isinstance" := by rfl) (he : starEach [a, b] X.env = (false, eval a X.env) :: starEach [b] X.env := by rfl) (hpl : (backTo pos (starEach [b] X.env)).any (·.1) = false := by rfl) : DE X G W (.Call (.Name "isinstance" p) [a, b] [] pos) (fCB (g2 gIsi) fs) := fun gd => (de_callB (cd_isi gd.hK) hg hm bt_isinstance ha (he := he) (hpl := hpl)) gd
theorem ty_int (hm : X.mg "int" = none) (hg : Gl X "int" := by rfl) : DE X G W (.Name "int" pos) (fC (.ty "int")) := de_ty hg hm bt_int
theorem ty_bool (hm : X.mg "bool" = none) (hg : Gl X "bool" := by rfl) : DE X G W (.Name "bool" pos) (fC (.ty "bool")) := de_ty hg hm bt_bool
theorem ty_tuple (hm : X.mg "tuple" = none) (hg : Gl X "tuple" := by rfl) : DE X G W (.Name "tuple" pos) (fC (.ty "tuple")) := de_ty hg hm bt_tuple
theorem ty_list (hm : X.mg "list" = none) (hg : Gl X "list" := by rfl) : DE X G W (.Name "list" pos) (fC (.ty "list")) := de_ty hg hm bt_list
theorem ty_str (hm : X.mg "str" = none) (hg : Gl X "str" := by rfl) : DE X G W (.Name "str" pos) (fC (.ty "str")) := de_ty hg hm bt_str
end
/-- a def of the module that keeps a promise by its function -/
structure Df (P : Program) (w : World) (K : PySem.W.Frag) (mg : Str → Option Value) (base : Heap) (C : Nat → Addr) (x : Str) (k : Nat) (ps : List Str) (io : List Nat) (m : Mir) : Prop where
  ex : ∃ f fd, mg x = some (.ref f) ∧ PySem.W.keepIn K (.ref f) = true ∧ Binds K fd ps [] ∧ FnOk P w K mg base (L2.CX P w) k f fd ps (spOf ⟨K, C⟩ ps.length io m)
/-- where a def stands -/
structure At (K : PySem.W.Frag) (mg : Str → Option Value) (x : Str) (st : Stmt) (ps : List Str) : Prop where
  ex : ∃ f fd, mg x = some (.ref f) ∧ Fun K x x st f fd ∧ Binds K fd ps []
section
variable {P : Program} {w : World} {K : PySem.W.Frag} {mg : Str → Option Value} {base : Heap} {C : Nat → Addr}
theorem Df.mk' {x : Str} {st : Stmt} {N ps : List Str} {k : Nat} {io : List Nat} {fb : MS} (A : At K mg x st ps) (S : FnScope N ps (defScope st)) (hio : io.Nodup) (hib : ∀ j ∈ io, j < ps.length)
    (hbody : ∀ (f : Addr) (cdv : Value) (A : Around) (outer : List PySem.Env) (s : Shared) (H : Hp) (E : XK) (s0 : L2.St) (W : WX), Room k (A.deeper (envOfC x (defScope st) s.heap.objs.size f cdv)) →
      DSs (cxOf (L2.CX P w) P w K mg base N x (defScope st) f cdv A outer s H E) ⟨⟨K, C⟩, io, s0, N.length, false⟩ W (defBody st) fb) : Df P w K mg base C x (k + 1) ps io (mirOf N.length io fb) := by
  obtain ⟨f, fd, hm, F, hb⟩ := A.ex
  refine ⟨f, fd, hm, F.kp, hb, fn_d F S hio hib fun X G W hX hz hi hn hh => ?_⟩
  obtain ⟨cdv, A, outer, s, H, E, rfl, hr⟩ := hX
  obtain ⟨Z, io', s0, n, hot⟩ := G
  cases hz
  cases hi
  cases hn
  cases hh
  exact hbody f cdv A outer s H E s0 W hr
theorem Df.mono {x : Str} {j k : Nat} {ps : List Str} {io : List Nat} {m : Mir} (h : Df P w K mg base C x j ps io m) (hk : j ≤ k) : Df P w K mg base C x k ps io m := by
  obtain ⟨f, fd, h1, h2, h3, h4⟩ := h.ex
  exact ⟨f, fd, h1, h2, h3, h4.mono hk⟩
end
/-- f(e, ..) of such a def -/
theorem dcall {X : Cx} {io0 : List Nat} {s0 : L2.St} {n : Nat} {hot : Bool} {C : Nat → Addr} {W : WX} {e : Expr} {es : List Expr} {fs : M (List T)} {src : List (Option Nat)} {k : Nat} {ps : List Str} {io : List Nat} {m : Mir} {x : Str} {p pos : Pos}
    (F : Df X.prog X.w X.K X.mg X.base C x k ps io m) (js : List Nat) (hr : Room k X.A) (ha : DA X ⟨⟨X.K, C⟩, io0, s0, n, hot⟩ W (e :: es) src fs) (hj : io.map (fun k => src.getD k none) = js.map some := by rfl) (hsl : src.length = ps.length := by rfl) (hg : Gl X x := by rfl)
    (hdb : (x == ("__debug__" : Str)) = false := by decide) (he : starEach (e :: es) X.env = (false, eval e X.env) :: starEach es X.env := by rfl) (hpl : (backTo pos (starEach es X.env)).any (·.1) = false := by rfl) :
    DE X ⟨⟨X.K, C⟩, io0, s0, n, hot⟩ W (.Call (.Name x p) (e :: es) [] pos) (fCall m js src fs) := by
  obtain ⟨f, fd, h1, h2, h3, h4⟩ := F.ex
  exact de_call (G := ⟨⟨X.K, C⟩, io0, s0, n, hot⟩) h4 hr hg h1 h2 h3 js hj hsl ha hdb he hpl
end DL
namespace DL
open PySem PySem.Spec PyProof.Rows L2
@[simp] def gAdd (a b : D) : Option T := (gI0 fun i j => .int (i + j)) a b
@[simp] def gSub (a b : D) : Option T := (gI0 fun i j => .int (i - j)) a b
@[simp] def gMul (a b : D) : Option T := (gI mulOk fun i j => .int (i * j)) a b
@[simp] def gFdiv (a b : D) : Option T := (gI divOk fun i j => .int (i.fdiv j)) a b
@[simp] def gMod (a b : D) : Option T := (gI (fun _ j => decide (j ≠ 0)) fun i j => .int (i.fmod j)) a b
@[simp] def gPow (a b : D) : Option T := (gI powOk fun i j => .int (i ^ j.toNat)) a b
@[simp] def gLt (a b : D) : Option T := (gI0 fun i j => .bl (decide (i < j))) a b
@[simp] def gLe (a b : D) : Option T := (gI0 fun i j => .bl (decide (i ≤ j))) a b
@[simp] def gGt (a b : D) : Option T := (gI0 fun i j => .bl (decide (j < i))) a b
@[simp] def gGe (a b : D) : Option T := (gI0 fun i j => .bl (decide (j ≤ i))) a b
@[simp] def gEq (a b : D) : Option T := (gEqS false) a b
@[simp] def gNe (a b : D) : Option T := (gEqS true) a b
section
variable {X : Cx} {Z : Wd}
theorem od_add : OpD X Z (binaryOp .Add) gAdd := od_addI
theorem od_mul : OpD X Z (binaryOp .Mult) gMul := od_mulI
theorem od_eq : OpD X Z (compareOp .Eq) gEq := od_eqS
theorem od_ne : OpD X Z (compareOp .NotEq) gNe := od_neS
end
end DL
namespace DL
/-- fuel by a slot's int, by the first int of a slot's tuple -/
def fuelI (i : Nat) (e : Env) : Nat := match e[i]? with
  | some (some (.fz (.int n))) => n.natAbs + 1
  | _ => 0
def fuelT (i : Nat) (e : Env) : Nat := match e[i]? with
  | some (some (.fz (.tup (.int n :: _)))) => n.natAbs + 1
  | _ => 0
end DL

set_option maxHeartbeats 4000000
namespace DL
open PySem PySem.Spec PyProof.Rows L2
/-! ### x op= e of ints -/
@[simp] def augI (i : Nat) (z : Option T) (e : Env) : RS := match z with
  | some t => .nx (e.set i (some t))
  | none => .no
@[simp] def fAug (g : D → D → Option T) (i : Nat) (fa : M T) (env : Env) : RS := match env[i]? with
  | some (some (.fz (.int a))) => (fa env).s fun b e => augI i (g (.int a) (frz b)) e
  | _ => .no
section
variable {X : Cx} {G : Sg} {W : WX} {a b c e : Expr} {es : List Expr} {fa fb fc : M T} {fs : M (List T)} {src : List (Option Nat)} {pos p : Pos}
theorem ds_augI {i : Nat} {x : Str} {op : Operator} {k : Int → Int → Int} {pos' : Pos} (hp : PIp X op (ipI k)) (hi : X.N[i]? = some x) (hx : Loc X.env.scope x) (hn : i < G.n) (ni : i ∉ G.io) (he : DE X G W e fa)
    (hf : X.fn x = true ∨ X.env.scope.names.lookup x = some .local := by first | exact .inl rfl | exact .inr rfl | assumption) : DS X G W (.AugAssign (.Name x pos') op e pos) (fAug (gI0 fun i j => .int (k i j)) i fa) := fun gd =>
  (ps_aug gd.nd hi hx (he gd) hp hf).imp fun D σ H ⟨env, ex, r, h⟩ => by
    unfold fAug at h
    split at h
    · rename_i v e1
      obtain ⟨w, ew, _⟩ := r.take e1
      have rw' : w = .int v := by
        obtain ⟨w', ew', r1⟩ := r.take e1
        rw [ew] at ew'
        cases ew'
        exact r1.out1.int
      subst rw'
      refine ⟨_, ew, rd_s r h fun H' u t e' r' h' => ?_⟩
      have r2 := r'.freeze
      cases e2 : frz t with
      | int j =>
        rw [e2] at h' r2
        have hu : u = .int j := r2.out1.int
        subst hu
        refine ⟨v, j, rfl, rfl, ?_⟩
        refine h' _ _ (Rel.store ?_ hn ni)
        exact r2.drop.back1 (Roots.add r2.drop.2.2 fun _ => rfl)
      | _ => rw [e2] at h'; exact h'.elim
    · exact h.elim
theorem daugAdd (i : Nat) {x : Str} {pos' : Pos} (he : DE X G W e fa) (hi : X.N[i]? = some x := by rfl) (hx : Loc X.env.scope x := by first | exact Or.inl rfl | exact Or.inr rfl) (hn : Nat.blt i G.n = true := by rfl) (ni : G.io.contains i = false := by rfl)
    (hf : X.fn x = true ∨ X.env.scope.names.lookup x = some .local := by first | exact .inl rfl | exact .inr rfl | assumption) : DS X G W (.AugAssign (.Name x pos') .Add e pos) (fAug gAdd i fa) := ds_augI ip_add hi hx (lt_b hn) (io_b ni) he hf
theorem daugSub (i : Nat) {x : Str} {pos' : Pos} (he : DE X G W e fa) (hi : X.N[i]? = some x := by rfl) (hx : Loc X.env.scope x := by first | exact Or.inl rfl | exact Or.inr rfl) (hn : Nat.blt i G.n = true := by rfl) (ni : G.io.contains i = false := by rfl)
    (hf : X.fn x = true ∨ X.env.scope.names.lookup x = some .local := by first | exact .inl rfl | exact .inr rfl | assumption) : DS X G W (.AugAssign (.Name x pos') .Sub e pos) (fAug gSub i fa) := ds_augI ip_sub hi hx (lt_b hn) (io_b ni) he hf
end
/-! ### is of bools, None -/
section
variable {X : Cx} {Z : Wd}
@[simp] def isS : D → D → Option Bool
  | .bl i, .bl j => some (decide (i = j))
  | .non, .non => some true
  | .bl _, .non => some false
  | .int _, .non => some false
  | .str _, .non => some false
  | .lst _, .non => some false
  | .tup _, .non => some false
  | .obj _ _ _, .non => some false
  | _, _ => none
@[simp] def gIs (neg : Bool) : D → D → Option T := fun a b => (isS a b).map fun k => .fz (.bl (if neg then !k else k))
@[simp] def gIsB (neg : Bool) : D → D → Option T
  | .bl i, .bl j => some (.fz (.bl (if neg then !decide (i = j) else decide (i = j))))
  | _, _ => none
theorem od_isB : OpD X Z (compareOp .Is) (gIsB false) := by
  refine ⟨_, op_isBl, fun H rs v1 v2 d1 d2 t Q ro e k => ?_⟩
  obtain ⟨p1, p2⟩ := ro.pair
  unfold gIsB at e
  split at e
  · cases e
    exact ⟨_, _, p1, p2, k H _ (Roots.add ro.drop2 fun _ => rfl)⟩
  · cases e
theorem od_notB : OpD X Z (compareOp .IsNot) (gIsB true) := by
  refine ⟨_, op_notBl, fun H rs v1 v2 d1 d2 t Q ro e k => ?_⟩
  obtain ⟨p1, p2⟩ := ro.pair
  unfold gIsB at e
  split at e
  · cases e
    exact ⟨_, _, p1, p2, k H _ (Roots.add ro.drop2 fun _ => rfl)⟩
  · cases e
/-! ### max, min of two ints -/
@[simp] def gMax2 : D → D → Option T
  | .int i, .int j => some (.fz (.int (if j > i then j else i)))
  | _, _ => none
@[simp] def gMin2 : D → D → Option T
  | .int i, .int j => some (.fz (.int (if j < i then j else i)))
  | _, _ => none
theorem cd_max2 (hc : X.calm = true) : CallD X Z (.builtin "max") (g2 gMax2) := cd_2 (call_max2 hc) fun H rs v w d d' t Q ro e k => by
  unfold gMax2 at e
  split at e
  · cases e
    have h1 : v = _ := ro.fz
    have h2 : w = _ := ro.drop.fz
    subst h1
    subst h2
    exact ⟨_, _, rfl, k H _ (Roots.add ro.drop2 fun _ => rfl)⟩
  · cases e
theorem cd_min2 (hc : X.calm = true) : CallD X Z (.builtin "min") (g2 gMin2) := cd_2 (call_min2 hc) fun H rs v w d d' t Q ro e k => by
  unfold gMin2 at e
  split at e
  · cases e
    have h1 : v = _ := ro.fz
    have h2 : w = _ := ro.drop.fz
    subst h1
    subst h2
    exact ⟨_, _, rfl, k H _ (Roots.add ro.drop2 fun _ => rfl)⟩
  · cases e
end
theorem bt_max : bootBuiltins "max" = some (.builtin "max") := by decide +kernel
theorem bt_min : bootBuiltins "min" = some (.builtin "min") := by decide +kernel
section
variable {X : Cx} {G : Sg} {W : WX} {a b c e : Expr} {es : List Expr} {fa fb fc : M T} {fs : M (List T)} {src : List (Option Nat)} {pos p : Pos}
theorem c_max (hm : X.mg "max" = none) (ha : DA X G W [a, b] src fs) (hg : Gl X "max" := by rfl) (he : starEach [a, b] X.env = (false, eval a X.env) :: starEach [b] X.env := by rfl) (hpl : (backTo pos (starEach [b] X.env)).any (·.1) = false := by rfl) (hh : G.hot = false := by rfl) : DE X G W (.Call (.Name "max" p) [a, b] [] pos) (fCB (g2 gMax2) fs) := fun gd => (de_callB (cd_max2 (gd.calm hh)) hg hm bt_max ha (he := he) (hpl := hpl)) gd
theorem c_min (hm : X.mg "min" = none) (ha : DA X G W [a, b] src fs) (hg : Gl X "min" := by rfl) (he : starEach [a, b] X.env = (false, eval a X.env) :: starEach [b] X.env := by rfl) (hpl : (backTo pos (starEach [b] X.env)).any (·.1) = false := by rfl) (hh : G.hot = false := by rfl) : DE X G W (.Call (.Name "min" p) [a, b] [] pos) (fCB (g2 gMin2) fs) := fun gd => (de_callB (cd_min2 (gd.calm hh)) hg hm bt_min ha (he := he) (hpl := hpl)) gd
end
/-! ### == of data at any depth -/
mutual
/-- data that == compares, of depth at most n -/
@[simp] def okD : D → Nat → Bool
  | .non, _ => true
  | .bl _, _ => true
  | .int _, _ => true
  | .str x, _ => PyData.strOk x
  | .lst xs, n + 1 => okDs xs n
  | .tup xs, n + 1 => okDs xs n
  | _, _ => false
@[simp] def okDs : List D → Nat → Bool
  | [], _ => true
  | x :: xs, n => okD x n && okDs xs n
end
mutual
def pdD : D → PyData
  | .bl b => .bool b
  | .int i => .int i
  | .str x => .str x
  | .lst xs => .list (pdDs xs)
  | .tup xs => .tuple (pdDs xs)
  | _ => .none
def pdDs : List D → List PyData
  | [] => []
  | x :: xs => pdD x :: pdDs xs
end
mutual
theorem okD_ok {Z : Wd} {H : Hp} : ∀ {v : V} {d : D} {n : Nat}, Rp Z H v d → okD d n = true → Dp Z.K H v (pdD d) ∧ (pdD d).canLay0 = true ∧ (pdD d).depth ≤ n
  | _, .non, _, r, _ => by cases r; exact ⟨.non, rfl, Nat.zero_le _⟩
  | _, .bl _, _, r, _ => by cases r; exact ⟨.bl _, rfl, Nat.zero_le _⟩
  | _, .int _, _, r, _ => by cases r; exact ⟨.int _, rfl, Nat.zero_le _⟩
  | _, .str _, _, r, h => by cases r; exact ⟨.str _, h, Nat.zero_le _⟩
  | _, .lst ds, n + 1, ⟨a, vs, e, q, rp⟩, h => by
    subst e
    obtain ⟨h1, h2, h3⟩ := okDs_ok rp h
    exact ⟨.lst q h1, h2, Nat.succ_le_succ h3⟩
  | _, .tup ds, n + 1, ⟨a, vs, e, q, rp⟩, h => by
    subst e
    obtain ⟨h1, h2, h3⟩ := okDs_ok rp h
    exact ⟨.tup q h1, h2, Nat.succ_le_succ h3⟩
  | _, .lst _, 0, _, h => by simp at h
  | _, .tup _, 0, _, h => by simp at h
  | _, .ty _, _, _, h => by simp at h
  | _, .cls _, _, _, h => by simp at h
  | _, .obj .., _, _, h => by simp at h
  | _, .dic .., _, _, h => by simp at h
  | _, .xd .., _, _, h => by simp at h
theorem okDs_ok {Z : Wd} {H : Hp} : ∀ {vs : List V} {ds : List D} {n : Nat}, Rps Z H vs ds → okDs ds n = true → DpAll Z.K H vs (pdDs ds) ∧ PyData.canLayAll0 (pdDs ds) = true ∧ PyData.depthAll (pdDs ds) ≤ n
  | [], [], _, _, _ => ⟨.nil, rfl, Nat.zero_le _⟩
  | v :: vs, d :: ds, n, ⟨r1, r2⟩, h => by
    have h : (okD d n && okDs ds n) = true := h
    rw [Bool.and_eq_true] at h
    obtain ⟨a1, a2, a3⟩ := okD_ok r1 h.1
    obtain ⟨b1, b2, b3⟩ := okDs_ok r2 h.2
    refine ⟨.cons a1 b1, ?_, ?_⟩
    · show (PyData.canLay0 (pdD d) && PyData.canLayAll0 (pdDs ds)) = true
      rw [a2, b2]; rfl
    · exact Nat.max_le.mpr ⟨a3, b3⟩
  | [], _ :: _, _, r, _ => r.elim
  | _ :: _, [], _, r, _ => r.elim
end
mutual
@[simp] def eqD : D → D → Bool
  | .non, .non => true
  | .bl i, .bl j => decide (i = j)
  | .bl a, .int j => decide ((if a then 1 else 0) = j)
  | .int i, .bl b => decide (i = (if b then 1 else 0))
  | .int i, .int j => decide (i = j)
  | .str i, .str j => decide (i = j)
  | .lst xs, .lst ys => eqDs xs ys
  | .tup xs, .tup ys => eqDs xs ys
  | _, _ => false
@[simp] def eqDs : List D → List D → Bool
  | [], [] => true
  | x :: xs, y :: ys => eqD x y && eqDs xs ys
  | _, _ => false
end
mutual
theorem eqv_ok : ∀ (d e : D) (n m : Nat), okD d n = true → okD e m = true → PyData.eqv (pdD d) (pdD e) = eqD d e
  | .lst xs, e, n, m, h1, h2 => by
    cases n with
    | zero => simp at h1
    | succ n =>
      cases e with
      | lst ys =>
        cases m with
        | zero => simp at h2
        | succ m => simpa [pdD, PyData.eqv] using eqvs_ok xs ys n m (by simpa using h1) (by simpa using h2)
      | _ => simp_all [pdD, PyData.eqv]
  | .tup xs, e, n, m, h1, h2 => by
    cases n with
    | zero => simp at h1
    | succ n =>
      cases e with
      | tup ys =>
        cases m with
        | zero => simp at h2
        | succ m => simpa [pdD, PyData.eqv] using eqvs_ok xs ys n m (by simpa using h1) (by simpa using h2)
      | _ => simp_all [pdD, PyData.eqv]
  | .non, e, n, m, h1, h2 => by cases e <;> simp_all [pdD, PyData.eqv]
  | .bl _, e, n, m, h1, h2 => by cases e <;> simp_all [pdD, PyData.eqv] <;> rfl
  | .int _, e, n, m, h1, h2 => by cases e <;> simp_all [pdD, PyData.eqv] <;> rfl
  | .str _, e, n, m, h1, h2 => by cases e <;> simp_all [pdD, PyData.eqv] <;> rfl
  | .ty _, e, n, m, h1, h2 => by simp at h1
  | .cls _, e, n, m, h1, h2 => by simp at h1
  | .obj .., e, n, m, h1, h2 => by simp at h1
  | .dic .., e, n, m, h1, h2 => by simp at h1
  | .xd .., e, n, m, h1, h2 => by simp at h1
theorem eqvs_ok : ∀ (d e : List D) (n m : Nat), okDs d n = true → okDs e m = true → PyData.eqvAll (pdDs d) (pdDs e) = eqDs d e
  | [], [], _, _, _, _ => rfl
  | [], _ :: _, _, _, _, _ => rfl
  | _ :: _, [], _, _, _, _ => rfl
  | x :: xs, y :: ys, n, m, h1, h2 => by
    simp only [okDs, Bool.and_eq_true] at h1 h2
    simp only [pdDs, PyData.eqvAll, eqDs, eqv_ok x y n m h1.1 h2.1, eqvs_ok xs ys n m h1.2 h2.2]
end
@[simp] def gEqD (neg : Bool) (a b : D) : Option T := if okD a 8 = true ∧ okD b 8 = true then some (.fz (.bl (if neg then !eqD a b else eqD a b))) else none
section
variable {X : Cx} {Z : Wd}
theorem od_eqD {k : Nat} (hr : Room k X.A) (hK : Z.K = X.K) : OpD X Z (compareOp .Eq) (gEqD false) := by
  refine ⟨_, op_eqD (by have := hr.un; omega), fun H rs v1 v2 d1 d2 t Q ro e q => ?_⟩
  obtain ⟨p1, p2⟩ := ro.pair
  unfold gEqD at e
  split at e
  · rename_i hh
    cases e
    obtain ⟨a1, a2, a3⟩ := okD_ok p1 hh.1
    obtain ⟨b1, b2, b3⟩ := okD_ok p2 hh.2
    refine ⟨_, _, hK ▸ a1, hK ▸ b1, ?_, ?_, ?_⟩
    · unfold SeqAt.shaped; rw [a2, decide_eq_true (by omega)]; rfl
    · unfold SeqAt.shaped; rw [b2, decide_eq_true (by omega)]; rfl
    · rw [eqv_ok _ _ _ _ hh.1 hh.2]
      exact q H _ (Roots.add ro.drop2 fun _ => rfl)
  · cases e
theorem od_neD {k : Nat} (hr : Room k X.A) (hK : Z.K = X.K) : OpD X Z (compareOp .NotEq) (gEqD true) := by
  refine ⟨_, op_neD (by have := hr.un; omega), fun H rs v1 v2 d1 d2 t Q ro e q => ?_⟩
  obtain ⟨p1, p2⟩ := ro.pair
  unfold gEqD at e
  split at e
  · rename_i hh
    cases e
    obtain ⟨a1, a2, a3⟩ := okD_ok p1 hh.1
    obtain ⟨b1, b2, b3⟩ := okD_ok p2 hh.2
    refine ⟨_, _, hK ▸ a1, hK ▸ b1, ?_, ?_, ?_⟩
    · unfold SeqAt.shaped; rw [a2, decide_eq_true (by omega)]; rfl
    · unfold SeqAt.shaped; rw [b2, decide_eq_true (by omega)]; rfl
    · rw [eqv_ok _ _ _ _ hh.1 hh.2]
      exact q H _ (Roots.add ro.drop2 fun _ => rfl)
  · cases e
end
@[simp] theorem okDs_ints (xs : List Int) (n : Nat) : okDs (xs.map D.int) n = true := by
  induction xs with
  | nil => rfl
  | cons x xs ih => simpa using ih
@[simp] theorem eqDs_ints : ∀ (xs ys : List Int), eqDs (xs.map D.int) (ys.map D.int) = decide (xs = ys)
  | [], [] => by simp
  | [], _ :: _ => by simp
  | _ :: _, [] => by simp
  | x :: xs, y :: ys => by simp [eqDs_ints xs ys]
end DL

set_option maxHeartbeats 4000000
namespace DL
open PySem PySem.Spec PyProof.Rows L2
/-- the scope of a def that says super() -/
structure SupScope (N P : List Str) (sc : Scope) : Prop where
  kind : sc.kind = .function
  co : sc.isCoroutine = false
  gen : sc.isGenerator = false
  nd : N.Nodup
  pre : N.take P.length = P
  par : ∀ x ∈ P, sc.names.lookup x = some .local
  nocell : ∀ y ∈ sc.names, y.2 ≠ .cell
  fre : ∀ x, sc.names.lookup x = some .free → x = "__class__"
  sup : sc.names.lookup ("super" : Str) = some .globalImplicit
  cl : sc.names.lookup ("__class__" : Str) = some .free
/-- where such a def stands -/
structure SupF (P : Program) (K : PySem.W.Frag) (x qual : Str) (st : Stmt) (f : Addr) (fd : FuncData) (C : Addr) : Prop where
  ex : ∃ (oc : Value) (od : Option Addr) (kV doc pm : Value) (an : Option Addr) (cda : Addr) (ct : Value) (osl : Array (Option Value)) (cc : Addr) (ccl : Value) (cdd : Option Addr) (vs : Array Value) (ccs : Array (Option Value)) (file : Str) (tf : Tok) (cl : Value) (cld : Option Addr) (csl : Array (Option Value)),
    fd = PySem.W.ksFn x qual (defArgs st) (defBody st) (defScope st) .none kV doc pm an (.ref cda) ct cc ∧ K.lookup f = some ⟨oc, od, .func fd, osl⟩ ∧ PySem.W.codeIn K (.ref cda) qual = true ∧
      K.lookup cda = some ⟨ccl, cdd, .fields vs, ccs⟩ ∧ vs[2]? = some (.str file tf) ∧ ((P.main.file : Str) == file) = true ∧ K.lookup cc = some ⟨cl, cld, .cell (some (.ref C)), csl⟩
/-- what the written part says of an own error class whose __init__ says super() -/
structure SupC (P : Program) (K : PySem.W.Frag) (C : Addr) : Prop where
  oex : OexC K C
  sub : PySem.W.mroIn K C (.ref C) = some true
  nos : PySem.W.nsIn K mainGlobals "super" = some none
  any : PySem.W.nsIn K cStatics "thirdparty.any" = some none
  ini : PySem.W.ks_superIn K C C "__init__" = some (some (.builtin "ValueError.__init__"))
  vb : PySem.W.subIn K (.ref C) (.type "ValueError") = some true
  top : (P.main.scope.names.lookup ("super" : Str)).isSome = false
/-- the context of its body -/
def cxS (CX : CXT) (P : Program) (w : World) (K : PySem.W.Frag) (mg : Str → Option Value) (base : Heap) (N : List Str) (env : PySem.Env) (A : Around) (outer : List PySem.Env) (s : Shared) (H : Hp) (E : XK) : Cx where
  prog := P
  w := w
  K := K
  mg := mg
  base := base
  A := A.deeper env
  N := N
  s_0 := s
  H_0 := H
  env := env
  outer := outer
  stack := env :: outer
  ex := []
  calm := true
  fn := fun x => x != "__class__"
  pn := []
  xe := fun e s' => wpAny (model P w) (A.deeper env) (leaving env e) (fun _ s'' => CX outer H s E e s'') (fun e' s'' => CX outer H s E e' s'') s'
theorem zip_rev {ps : List Str} {us : List Value} : ∀ {i : Nat} {x : Str} {u : Value}, ps.Nodup → ps[i]? = some x → us[i]? = some u → (ps.zip us).reverse.lookup x = some u := by
  intro i x u nd h1 h2
  have hm : (x, u) ∈ ps.zip us := List.mem_of_getElem? (i := i) (by rw [List.getElem?_zip_eq_some]; exact ⟨h1, h2⟩)
  have key : ∀ (l : List (Str × Value)), (l.map (·.1)).Nodup → (x, u) ∈ l → l.lookup x = some u := by
    intro l
    induction l with
    | nil => intro _ h; cases h
    | cons p l ih =>
      intro hn hm
      obtain ⟨y, v⟩ := p
      rw [List.lookup_cons]
      have hn : (y :: l.map (·.1)).Nodup := hn
      rcases List.mem_cons.mp hm with e | e
      · cases e
        simp
      · have : x ≠ y := fun z => (List.nodup_cons.mp hn).1 (by rw [← z]; exact List.mem_map_of_mem (f := (·.1)) e)
        have hb : (x == y) = false := by simpa using this
        rw [hb]
        exact ih (List.nodup_cons.mp hn).2 e
  refine key _ ?_ (List.mem_reverse.mpr hm)
  rw [List.map_reverse]
  have : ∀ (ps : List Str) (us : List Value), ((ps.zip us).map (·.1)).Sublist ps := by
    intro ps
    induction ps with
    | nil => intro us; simp
    | cons p ps ih =>
      intro us
      cases us with
      | nil => simp
      | cons u us => simpa using ih us
  exact ((List.reverse_perm _).nodup_iff).mpr (nd.sublist (this ps us))
theorem invS {CX : CXT} {P : Program} {w : World} {K : PySem.W.Frag} {mg : Str → Option Value} {base : Heap} {N ps : List Str} {qual : Str} {scope : Scope} {f cc : Addr} {cd : Value} {A : Around} {outer : List PySem.Env} {s : Shared} {h1 : Heap} {H : Hp} {E : XK} {us : List Value} {vs : List V} {tk : Nat} {v0 : Option Value} {cl : Value} {cld : Option Addr} {csl : Array (Option Value)}
    (S : SupScope N ps scope) (hd : A.handled = none) (e0 : Env0 P w K mg base A outer s H) (hl : vs.length = ps.length) (r : Vals vs us) (hn : h1.Ns s.heap.objs.size (fun x => (ps.zip us).reverse.lookup x)) (hk : ∀ b o, s.heap.get? b = some o → h1.get? b = some o)
    (hc : K.lookup cc = some ⟨cl, cld, .cell v0, csl⟩) :
    Inv (cxS CX P w K mg base N (PySem.W.ksEnv qual scope s.heap.objs.size f cd cc) A outer s H E) [] (L2.start N vs) H { s with heap := h1, toks := tk } := by
  have hpl : ps.length ≤ N.length := by have := congrArg List.length S.pre; rw [List.length_take] at this; omega
  have hcb := e0.mod.kin _ _ hc
  have hcs := (e0.bs _ _ hcb).1
  have noA : ∀ b : Addr, b ∉ (cxS CX P w K mg base N (PySem.W.ksEnv qual scope s.heap.objs.size f cd cc) A outer s H E).ex := fun b z => absurd (show b ∈ ([] : List Addr) from z) (by simp)
  have lk : ∀ {y : Str} {c : Addr}, (cxS CX P w K mg base N (PySem.W.ksEnv qual scope s.heap.objs.size f cd cc) A outer s H E).env.cells.lookup y = some c → y = "__class__" ∧ c = cc := by
    intro y c h
    have h : List.lookup y [(("__class__" : Str), cc)] = some c := h
    rw [List.lookup_cons] at h
    cases e : (y == ("__class__" : Str)) with
    | true => rw [e] at h; exact ⟨eq_of_beq e, (Option.some.inj h).symm⟩
    | false => rw [e] at h; cases h
  refine ⟨⟨e0.mod, S.kind, rfl, rfl, Nat.le_refl _, fun y z c h1 h2 => ?_, fun y hy => ?_, fun y c hf h => ?_, fun _ => hd, Around.frames_deeper e0.frames, .inr ⟨rfl, rfl⟩, fun b z => absurd z (noA b), e0.bs, e0.bsz, fun b _ _ => noA b, fun b z => absurd z (noA b), e0.funs, e0.frf⟩,
    rfl, e0.bare, Un.kept hk, ⟨_, hn, fun i y v h1 h2 h3 => ?_⟩, fun y c h => ?_, e0.hok.fresh (Nat.le_refl _), fun y c h => ?_, fun p hp => absurd (show p ∈ ([] : List (Addr × Obj)) from hp) (by simp), e0.hok.kept hk, ?_⟩
  · rw [(lk h1).1, (lk h2).1]
  · have hy : scope.names.lookup y = some .cell ∨ scope.names.lookup y = some .free := hy
    rcases hy with hy | hy
    · exact absurd rfl (S.nocell _ (PySem.mem_of_lookup hy))
    · rw [S.fre y hy]
      exact ⟨cc, rfl⟩
  · have hf : (y != ("__class__" : Str)) = true := hf
    rw [(lk h).1] at hf
    exact absurd hf (by decide)
  · have hi : i < vs.length := by
      unfold L2.start at h2
      by_cases hi : i < vs.length
      · exact hi
      · rw [List.getElem?_append_right (by simpa using hi)] at h2
        rw [List.getElem?_replicate] at h2
        split at h2 <;> cases h2
    have ha : vs[i]? = some v := by
      unfold L2.start at h2
      rw [List.getElem?_append_left (by simpa using hi), List.getElem?_map] at h2
      cases e : vs[i]? with
      | none => rw [e] at h2; cases h2
      | some a => rw [e] at h2; cases h2; rfl
    obtain ⟨u, hu, rv⟩ := r.get ha
    have hp : ps[i]? = some y := by
      rw [← S.pre, List.getElem?_take_of_lt (by omega)]; exact h1
    have ndP : ps.Nodup := by rw [← S.pre]; exact S.nd.sublist (List.take_sublist _ _)
    exact ⟨u, rv, .inl ⟨S.par y (List.mem_of_getElem? hp), zip_rev ndP hp hu⟩⟩
  · rw [(lk h).2]
    exact ⟨v0, _, hk _ _ hcs, rfl⟩
  · rw [(lk h).2]
    exact (e0.bs _ _ hcb).2
  · unfold L2.start
    show _ = N.length
    rw [List.length_append, List.length_map, List.length_replicate]
    omega
end DL

set_option maxHeartbeats 4000000
namespace DL
open PySem PySem.Spec PyProof.Rows L2
section
variable {prog : Program} {w : World} {A : Around} {E : Value → Shared → Prop} {h : Heap} {g : Array GenState} {d : Drawn} {t : Nat} {os : OsState}
variable {nm q : Str} {C N : Addr} {bs bm : List Value} {hdct : Bool} {sn : List Str} {sub : List Value} {ab : Bool} {col : Option Bool} {dd : Option Addr} {k0 k1 k2 k3 k5 : Option Value}
theorem call_kxs {u e t0 : Addr} {rest : List Value} {Q : Value → Shared → Prop}
    (hC : h.get? C = some (excClassObj nm q C N bs bm hdct sn sub ab col dd k0 k1 k2 k3 k5 "ValueError.__new__")) (he : h.get? e = some (HandSPX.excO C t0)) (hu : h.get? u = some (PySem.W.kxs_mw "ValueError.__init__" e)) (hrest : rest.length ≤ sizeLine)
    (hq : ∀ h' t1, (∀ b o, b ≠ e → h.get? b = some o → h'.get? b = some o) → h'.get? e = some (HandSPX.excO C t1) → Q .none ⟨h', g, d, t, os⟩) :
    wpAny (model prog w) A (call (.ref u) rest) Q E ⟨h, g, d, t, os⟩ := by
  refine wpAny_call (codeAny_of_tree ?_)
  show wpAny _ A.in1 (callAny (.ref u) ⟨rest, []⟩) _ _ _
  simp only [callAny]
  refine wpAny_bind (wpAny_load hu ?_)
  simp only [PySem.W.kxs_mw, show (Value.type "method-wrapper" == Value.type "method" || Value.type "method-wrapper" == Value.type "builtin_function_or_method" || Value.type "method-wrapper" == Value.type "method-wrapper") = true by decide, if_true]
  refine W.KFB.if_so (by decide) ?_
  refine wpAny_bind (PySem.W.check_bound_init F.excBase_ValueError.toExcCallFacts hC he rfl ?_)
  refine wpAny_bind (wpAny_pure (wpAny_pure ?_))
  refine ⟨Code.quiet_builtin _ (by decide +kernel), codeAny_builtin F.excBase_ValueError.initEntry ?_⟩
  rw [Around.under_plainId F.excBase_ValueError.init.plain _]
  wp_walk
  refine hq _ h.objs.size (fun b o hb ho => ?_) ?_
  · rw [Heap.get?_update_other _ _ (Ne.symm hb)]
    exact Heap.get?_push_of_some _ ho
  · rw [Heap.get?_update_self _ (Heap.get?_push_of_some _ he) rfl]
    rfl
end
theorem looks_mro {K : PySem.W.Frag} {M : Model} {h : Heap} {C : Addr} {cd : ClassData} (X : K.In h) (hc : PySem.W.clsIn K C = some cd) : PySem.W.Looks M h (mroOf (.ref C)) cd.mro :=
  fun A Q E s k q => wpAny_bind ((PySem.W.looks_clsIn X hc) A _ E s k (wpAny_pure q))
/-- the def of an own error's __init__: super().__init__(a1), then the rest -/
theorem fn_sup {P : Program} {w : World} {K : PySem.W.Frag} {mg : Str → Option Value} {base : Heap} {x qual : Str} {st : Stmt} {f : Addr} {fd : FuncData} {C : Addr} {N ps : List Str} {k : Nat} {sp : Sp} {a1 : Expr} {p0 p1 p2 p3 p4 : Pos} {rest : List Stmt} {ar : Arg}
    (F : SupF P K x qual st f fd C) (S : SupScope N ps (defScope st)) (T : SupC P K C)
    (hbd : defBody st = .Expr (.Call (.Attribute (.Call (.Name "super" p0) [] [] p1) "__init__" p2) [a1] [] p3) p4 :: rest)
    (hfirst : ((defArgs st).posonlyargs ++ (defArgs st).args).head? = some ar) (har : ps.head? = some ar.arg)
    (len : ∀ vs H Q E, sp vs H Q E → vs.length = ps.length)
    (hpl : ∀ env : PySem.Env, starEach [a1] env = (false, eval a1 env) :: starEach [] env)
    (hsw : ∀ env : PySem.Env, env.scope = defScope st → swapsWith (.Call (.Attribute (.Call (.Name "super" p0) [] [] p1) "__init__" p2) [a1] [] p3) none p4.line env = pure false)
    (hev : ∀ env : PySem.Env, ∃ pl : Sem Bool, eval (.Call (.Attribute (.Call (.Name "super" p0) [] [] p1) "__init__" p2) [a1] [] p3) env = (do
      let ov ← attributeBase (.Call (.Name "super" p0) [] [] p1) "__init__" env (eval (.Call (.Name "super" p0) [] [] p1) env)
      standAt p2.atName
      let (f, first) ← holding [ov] (getMethod ov "__init__" pl)
      callWith p3 f first (backTo p3 (starEach [a1] env)) []))
    (hbody : ∀ (cdv : Value) (cc : Addr) (A : Around) (outer : List PySem.Env) (s : Shared) (H : Hp) (vs : List V) (Q : VK) (E : XK), Room k (A.deeper (PySem.W.ksEnv qual (defScope st) s.heap.objs.size f cdv cc)) → sp vs H Q E →
      ∃ (a : Addr) (te : TE) (t : TS), vs.head? = some (.ref a) ∧ H a = some (exo a C none) ∧ PE (cxS (L2.CX P w) P w K mg base N (PySem.W.ksEnv qual (defScope st) s.heap.objs.size f cdv cc) A outer s H E) a1 te ∧
        PSs (cxS (L2.CX P w) P w K mg base N (PySem.W.ksEnv qual (defScope st) s.heap.objs.size f cdv cc) A outer s H E) rest t ∧
        te (start N vs) H (fun v H1 => [v].length = 1 ∧ H1 a = some (exo a C none) ∧ t { nx := fun _ H' => Q .non H', rt := Q } (start N vs) H1)) :
    FnOk P w K mg base (L2.CX P w) (k + 1) f fd ps sp := by
  obtain ⟨oc, od, kV, doc, pm, an, cda, ct, osl, cc, ccl, cdd, vsC, ccs, file, tf, cl, cld, csl, rfl, lk, hcd, lcd, hvs, hfile, lcc⟩ := F.ex
  refine ⟨len, fun A outer s H args us vs Q E hr e0 hb r hsp => ?_⟩
  have hl := len _ _ _ _ hsp
  have KX : K.In s.heap := e0.mod.kin.keeps fun b o e => (e0.bs b o e).1
  have lim : s.heap.NoLimit := e0.mod.nolimit.keeps fun b o e => (e0.bs b o e).1
  refine PySem.ks_codeAny_call_defAt (fd := PySem.W.ksFn x qual (defArgs st) (defBody st) (defScope st) .none kV doc pm an (.ref cda) ct cc) (body := defBody st) (binds := ps.zip us) hr.depth (KX _ _ lk) rfl lim (PySem.W.codeRec_of KX hcd) rfl hb S.nocell
    (fun y hy => S.par y.1 (List.of_mem_zip (a := y.1) (b := y.2) hy).1) (fun h1 hns hk => ?_) S.co S.gen S.kind
  show PySem.wpAt (model P w) (A.deeper (PySem.W.ksEnv qual (defScope st) s.heap.objs.size f (.ref cda) cc)) (.func (defBody st) (PySem.W.ksEnv qual (defScope st) s.heap.objs.size f (.ref cda) cc)) (execs (defBody st) (PySem.W.ksEnv qual (defScope st) s.heap.objs.size f (.ref cda) cc)) _ _ _
  obtain ⟨a, te, t, hva, hHa, hte, ht, hq⟩ := hbody (.ref cda) cc A outer s H vs Q E (hr.deeper _) hsp
  have I : Inv (cxS (L2.CX P w) P w K mg base N (PySem.W.ksEnv qual (defScope st) s.heap.objs.size f (.ref cda) cc) A outer s H E) [] (start N vs) H { s with heap := h1, toks := s.toks + (ps.zip us).length } := invS S hr.hd e0 hl r hns hk lcc
  rw [hbd]
  refine ks_wpAt_execs_cons ?_
  refine ks_wpAt_Expr_any ?_ (hi := by unfold interactive; rw [show (PySem.W.ksEnv qual (defScope st) s.heap.objs.size f (.ref cda) cc).scope.kind = .function from S.kind]; rfl) (hs := hsw _ rfl)
  obtain ⟨pl, hevx⟩ := hev (PySem.W.ksEnv qual (defScope st) s.heap.objs.size f (.ref cda) cc)
  refine ks_wpAt_MethodCall (pl := pl) ?_ hevx
  have KX1 : K.In h1 := KX.keeps hk
  obtain ⟨nm, q, Nn, bs, bm, sn, sub, ab, col, dd, k0, k1, k2, k3, k5, hC, hbm⟩ := T.oex.cls
  have hcl : PySem.W.clsIn K C = some { name := nm, bases := bs, mro := .ref C :: bm, ns := Nn, qualname := q, hasDict := true, slotNames := sn, subclasses := sub, abstract := ab, collection := col, hasDel := false } := by unfold PySem.W.clsIn; rw [hC] <;> rfl
  obtain ⟨t1, hoe⟩ := exo_at (P := P) (w := w) I.hok hHa
  have hoe : h1.get? a = some ({ cls := .ref C, dict := none, data := .fields #[.ref t1, .none, .none, .none, .bool false, .none] } : Obj) := hoe
  have hks : (PySem.W.ksEnv qual (defScope st) s.heap.objs.size f (.ref cda) cc).kindOf "super" = some .globalImplicit := S.sup
  have hkc : (PySem.W.ksEnv qual (defScope st) s.heap.objs.size f (.ref cda) cc).kindOf "__class__" = some .free := S.cl
  refine ks_wpAt_super_base (env := PySem.W.ksEnv qual (defScope st) s.heap.objs.size f (.ref cda) cc) hks hkc (by decide) rfl (KX1 _ _ lk) rfl hfirst rfl (KX1 _ _ lcd) rfl hvs hfile T.top ?_
  -- self's value
  obtain ⟨v0, vs', rfl⟩ : ∃ v0 vs', vs = v0 :: vs' := by
    cases vs with
    | nil => cases hva
    | cons v vs => exact ⟨v, vs, rfl⟩
  have hv0 : v0 = .ref a := Option.some.inj hva
  subst hv0
  obtain ⟨p', ps', rfl⟩ : ∃ p' ps', ps = p' :: ps' := by
    cases ps with
    | nil => cases har
    | cons v vs => exact ⟨v, vs, rfl⟩
  have hp' : p' = ar.arg := Option.some.inj har
  subst hp'
  cases r with
  | @cons _ u0 _ ur ra rr =>
  obtain rfl : u0 = Value.ref a := ra
  have nd : (ar.arg :: ps').Nodup := by rw [← S.pre]; exact S.nd.sublist (List.take_sublist _ _)
  have hself : ((ar.arg :: ps').zip (Value.ref a :: ur)).reverse.lookup ar.arg = some (.ref a) := zip_rev (i := 0) nd rfl rfl
  obtain ⟨mb, hb1, hb2⟩ := e0.mod.blt
  have kb : ∀ b o, base.get? b = some o → h1.get? b = some o := fun b o e => hk b o (e0.bs b o e).1
  refine PySem.W.ks_loadName_global S.kind hks (PySem.Calls.loadGlobal_builtin (env := PySem.W.ksEnv qual (defScope st) s.heap.objs.size f (.ref cda) cc) (e0.mod.glob.keeps kb) (PySem.W.mg_none_of e0.mod.kin e0.mod.glob T.nos) (hb1.keeps kb) ((hb2 _ (by decide +kernel)).trans (by decide +kernel)) ⟨rfl, ?_⟩)
  refine wpAny_loadName_free S.kind hkc rfl ⟨_, KX1 _ _ lcc, rfl⟩ ?_
  refine wpAny_loadName_local S.kind (S.par _ (List.mem_cons_self ..)) hns hself ?_
  have hCo := KX1 _ _ hC
  refine ks_wpAny_isType_cls hCo rfl ⟨rfl, ?_⟩
  refine ks_wpAny_call_super hCo rfl hoe rfl (fun c e => by cases e) (PySem.W.looks_mroIn KX1 T.sub) (fun h2 e2 kk2 => ?_)
  have KX2 : K.In h2 := KX1.keeps kk2
  have J2 : PySem.W.InstAt h2 a { cls := .ref C, dict := none, data := .fields #[.ref t1, .none, .none, .none, .bool false, .none] } C none := ⟨kk2 _ _ hoe, rfl, rfl, trivial⟩
  have hini := T.ini
  unfold PySem.W.ks_superIn at hini
  rw [hcl] at hini
  refine PySem.W.kxs_getMethod PySem.W.kxs_ValueError e2 (PySem.W.looks_opaque KX2 T.any) (looks_mro KX2 hcl) rfl KX2 hini (J2.type.andThen (PySem.W.looks_subIn KX2 T.vb)) (PySem.W.ks_ne KX2 J2 hcl) (by decide) ?_
  -- the call of the wrapper
  have I2 : Inv (cxS (L2.CX P w) P w K mg base N (PySem.W.ksEnv qual (defScope st) s.heap.objs.size f (.ref cda) cc) A outer s H E) ((h2.objs.size, PySem.W.kxs_mw "ValueError.__init__" a) :: []) (start N (.ref a :: vs')) H { s with heap := h2.push (PySem.W.kxs_mw "ValueError.__init__" a), toks := s.toks + ((ar.arg :: ps').zip (Value.ref a :: ur)).length + 1 } :=
    ClX.pin_new (s := { s with heap := h2, toks := s.toks + ((ar.arg :: ps').zip (Value.ref a :: ur)).length }) (I.kept (t' := s.toks + ((ar.arg :: ps').zip (Value.ref a :: ur)).length) kk2) (fun _ _ z => Heap.get?_push_of_some _ z) (Nat.le_refl _) (Heap.get?_push_size h2 rfl) (fun v z => nomatch z)
  have stp := hpl (PySem.W.ksEnv qual (defScope st) s.heap.objs.size f (.ref cda) cc)
  have hargs := (pa_cons hte pa_nil stp).run p3 _ _ (start N (.ref a :: vs')) H (fun us H1 => us.length = 1 ∧ H1 a = some (exo a C none) ∧ t { nx := fun _ H' => Q .non H', rt := Q } (start N (.ref a :: vs')) H1) I2 (by
    exact hq)
  show wpAny (model P w) (A.deeper _) (callWith p3 (.ref h2.objs.size) [] (backTo p3 (starEach [a1] _)) []) _ _ _
  change wpAny (model P w) (A.deeper (PySem.W.ksEnv qual (defScope st) s.heap.objs.size f (.ref cda) cc)) (spliced (backTo p3 (starEach [a1] (PySem.W.ksEnv qual (defScope st) s.heap.objs.size f (.ref cda) cc)))) _ _ _ at hargs
  rw [stp] at hargs ⊢
  refine PySem.W.kxs_callWith (i := "ValueError.__init__") (x := a) rfl (PySem.Calls.evalArgs_plain (thn hargs fun us s1 ⟨ws, H1, I3, rv, hl1, hH1, q1⟩ => ?_))
  refine ⟨ClX.pin_at I3, ?_⟩
  obtain ⟨hp, g, d, tk, os⟩ := s1
  obtain ⟨t2, hoe3⟩ := exo_at (P := P) (w := w) I3.hok hH1
  refine call_kxs (I3.kIn _ _ hC) hoe3 (ClX.pin_at I3) (by
    have : us.length = 1 := by rw [← rv.length]; exact hl1
    show ([] ++ us).length ≤ _
    rw [List.nil_append, this]; decide) fun h' t3 kk hx => ?_
  have J := (ClX.unpin I3).write (t' := tk) (x := a) (e := a) (o := exo a C none) (h' := h') (by rw [hH1]; exact True.intro) (.inl rfl) kk ⟨_, hx⟩ (exo_ok hx)
  have eu : upd H1 a (exo a C none) = H1 := by
    funext b
    by_cases hb : b = a
    · rw [hb, upd_same, hH1]
    · rw [upd_ne hb]
  rw [eu] at J
  refine wpAt_of_wpAny (wpAny_mono (ht.run [] _ _ H1 _ J q1) (fun fl s' hs => ?_) fun e s' hs => hs)
  have fin : ∀ {σ' : L2.St} {H' : Hp} {v : V} {u : Value}, Inv (cxS (L2.CX P w) P w K mg base N (PySem.W.ksEnv qual (defScope st) s.heap.objs.size f (.ref cda) cc) A outer s H E) [] σ' H' s' → RelV v u → Q v H' → CE outer P w H s Q u s' :=
    fun {σ' H' v u} J rv q => ⟨v, H', J.os, J.bare, J.base, J.hok, rv, q⟩
  cases fl with
  | ret u =>
    obtain ⟨v, σ', H', J, rv, q⟩ := hs
    exact fin J rv q
  | next =>
    obtain ⟨σ', H', J, q⟩ := hs
    exact fin (v := V.non) (u := Value.none) J rfl q
  | brk =>
    obtain ⟨_, _, _, q⟩ := hs
    exact False.elim q
  | cont =>
    obtain ⟨_, _, _, q⟩ := hs
    exact False.elim q
end DL

set_option maxHeartbeats 4000000
namespace DL
open PySem PySem.Spec PyProof.Rows L2
/-! ### what an f-string may hold -/
def intF (i : Int) : Bool := decide (i.natAbs.log2 < 1920)
def fmtV (K : PySem.W.Frag) (H : Hp) (v : V) : Prop := (∃ y : Str, v = .str y ∧ y.length ≤ 1000000) ∨ (∃ i : Int, v = .int i ∧ intF i = true) ∨ (∃ (a : Addr) (l : List Int), v = .ref a ∧ SqT K H a (l.map V.int) ∧ l.length ≤ 500 ∧ ∀ i ∈ l, intF i = true)
def tFmtA (K : PySem.W.Frag) (te : TE) : TE := fun σ H Q => te σ H fun x H1 => fmtV K H1 x ∧ ∀ m : Str, m.length ≤ 1050000 → Q (.str m) H1
theorem sizeLine_big : 13000000 ≤ sizeLine := by decide
theorem int_text {i : Int} (h : intF i = true) : (toString i : Str).length ≤ 2000 := by
  have e := int_text_length_le (k := 1920) (by decide) (of_decide_eq_true h)
  show (Str.ofString (toString i)).length ≤ 2000
  rw [PySem.ofString_length]; omega
theorem repr_ints {prog : Program} {w : World} : ∀ {l : List Int} {its : List Value}, Vals (l.map V.int) its → (∀ i ∈ l, intF i = true) → ReprAll prog w its (l.map fun i => (toString i : Str))
  | [], _, r, _ => by
    cases r
    exact .nil
  | y :: l, _, r, h => by
    cases r with
    | cons r1 r2 =>
      obtain ⟨t, rfl⟩ := r1
      exact .cons (ReprIs.int t (of_decide_eq_true (h y List.mem_cons_self))) (repr_ints r2 fun z hz => h z (List.mem_cons_of_mem _ hz))
theorem piled_ints : ∀ l : List Int, (∀ i ∈ l, intF i = true) → piled (l.map fun i => (toString i : Str)) ≤ 2010 * l.length
  | [], _ => Nat.zero_le _
  | y :: l, h => by
    have h1 := int_text (h y List.mem_cons_self)
    have h2 := piled_ints l fun z hz => h z (List.mem_cons_of_mem _ hz)
    rw [List.map_cons, piled_cons, List.length_cons]
    omega
theorem pe_fmtA {X : Cx} {e : Expr} {te : TE} {pos : Pos} {k : Nat} (hr : Room k X.A) (he : PE X e te) : PE X (.FormattedValue e (-1) none pos) (tFmtA X.K te) := by
  refine ⟨fun pins s σ H Q I h => ?_⟩
  refine wpAny_FormattedValue_plain (thn (he.run pins s σ H _ I h) fun v s1 hv => ?_)
  obtain ⟨x, H1, I1, r1, hf, q⟩ := hv
  have big := sizeLine_big
  rcases hf with ⟨y, rfl, hz⟩ | ⟨i, rfl, hz⟩ | ⟨a, l, rfl, ht, hl, hi⟩
  · obtain ⟨t, rfl⟩ := r1
    exact wpAny_formatField_str ⟨.str y, H1, I1, ⟨t, rfl⟩, q y (by omega)⟩ ⟨.str y, H1, I1.tok _, ⟨_, rfl⟩, q y (by omega)⟩ (by omega)
  · obtain ⟨t, rfl⟩ := r1
    have := int_text hz
    exact wpAny_formatField_int (of_decide_eq_true hz) ⟨.str (toString i), H1, I1.tok _, ⟨_, rfl⟩, q _ (by omega)⟩
  · cases r1
    obtain ⟨its, rv, ⟨o, ho, hcl, n, hd⟩, _⟩ := I1.tuple ht
    have hp := piled_ints l hi
    have htx := fmt_text (l.map fun i => (toString i : Str))
    have hu := hr.units
    exact fmt_tuple (ts := l.map fun i => (toString i : Str)) (by omega) ho hcl hd (repr_ints rv hi) (by omega) fun m u tk hm => ⟨.str m, H1, I1.tok _, ⟨u, rfl⟩, q m (by omega)⟩
/-- a message's part: the slots that it shows -/
def tPart (K : PySem.W.Frag) (is : List Nat) : TE := fun σ H Q => (∀ i ∈ is, ∃ v, σ[i]? = some (some v) ∧ fmtV K H v) ∧ ∀ m : Str, m.length ≤ 1050000 → Q (.str m) H
def MP (X : Cx) (e : Expr) (is : List Nat) : Prop := PE X e (tPart X.K is)
section
variable {X : Cx}
theorem mp_slot {i : Nat} {e : Expr} {pos : Pos} {k : Nat} (hr : Room k X.A) (he : PE X e (tVar i)) : MP X (.FormattedValue e (-1) none pos) [i] :=
  (pe_fmtA hr he).imp fun σ H Q ⟨h1, h2⟩ => by
    obtain ⟨v, e, f⟩ := h1 i (List.mem_singleton.mpr rfl)
    exact ⟨v, e, f, h2⟩
theorem mp_text {t : Str} {j pos} (ht : t.length ≤ 1050000) : MP X (.Constant (.str t) j pos) [] :=
  pe_str.imp fun σ H Q ⟨_, h2⟩ => h2 t ht
inductive MPs (X : Cx) : List Expr → List Nat → Prop where
  | nil : MPs X [] []
  | cons {e : Expr} {is js : List Nat} {es : List Expr} (h : MP X e is) (r : MPs X es js) : MPs X (e :: es) (is ++ js)
theorem mps_pj {es : List Expr} {is : List Nat} (h : MPs X es is) : ∃ ts, PJ X es ts ∧ ∀ (acc : Str) (n : Nat) (σ : L2.St) (H : Hp) (Q : Str → Hp → Prop), acc.length ≤ n * 1050000 → n + es.length ≤ 12 → (∀ i ∈ is, ∃ v, σ[i]? = some (some v) ∧ fmtV X.K H v) → (∀ m : Str, Q m H) → tJs ts acc σ H Q := by
  induction h with
  | nil => exact ⟨[], .nil, fun acc n σ H Q _ _ _ k => k acc⟩
  | @cons e is js es h r ih =>
    obtain ⟨ts, pj, k⟩ := ih
    refine ⟨tPart X.K is :: ts, .cons h pj, fun acc n σ H Q ha hn hi q => ⟨fun i hi' => hi i (List.mem_append_left _ hi'), fun m hm => ⟨m, rfl, ?_, ?_⟩⟩⟩
    · have big := sizeLine_big
      rw [strLen_append]
      simp only [List.length_cons] at hn
      omega
    · exact k (acc ++ m) (n + 1) σ H Q (by rw [strLen_append]; omega) (by simp only [List.length_cons] at hn; omega) (fun i hi' => hi i (List.mem_append_right _ hi')) q
def tMsg (K : PySem.W.Frag) (is : List Nat) : TE := fun σ H Q => (∀ i ∈ is, ∃ v, σ[i]? = some (some v) ∧ fmtV K H v) ∧ ∀ m : Str, Q (.str m) H
theorem msg_join {v1 v2 : Expr} {rest : List Expr} {is : List Nat} {pos : Pos} (h : MPs X (v1 :: v2 :: rest) is) (hn : rest.length ≤ 8 := by decide) : PE X (.JoinedStr (v1 :: v2 :: rest) pos) (tMsg X.K is) := by
  obtain ⟨ts, pj, k⟩ := mps_pj h
  exact (pe_joined pj).imp fun σ H Q ⟨h1, h2⟩ => k _ 0 σ H _ (by decide) (by simp only [List.length_cons]; omega) h1 fun m => h2 m
theorem msg_text {t : Str} {j pos} : PE X (.Constant (.str t) j pos) (tMsg X.K []) := pe_str.imp fun σ H Q ⟨_, h2⟩ => h2 t
end
end DL

set_option maxHeartbeats 4000000
namespace DL
open PySem PySem.Spec PyProof.Rows L2
theorem fmtV.mono {K : PySem.W.Frag} {H H' : Hp} {v : V} (s : Same H H') (h : fmtV K H v) : fmtV K H' v := by
  rcases h with h | h | ⟨a, l, e, ht, hl, hi⟩
  · exact .inl h
  · exact .inr (.inl h)
  · exact .inr (.inr ⟨a, l, e, same_t s ht, hl, hi⟩)
theorem same_upd {H : Hp} {a : Addr} {o : HO} (h : H a = none) : Same H (upd H a o) := fun b x e => by
  rw [upd_ne (ne_of_none e h)]; exact e
/-! ### promises of the errors' __init__ -/
def spE0 (C : Addr) : Sp := fun vs H Q _ => ∃ a, vs = [.ref a] ∧ H a = some (exo a C none) ∧ Q .non H
def spE1 (K : PySem.W.Frag) (C : Addr) (f : Str) : Sp := fun vs H Q _ => ∃ a v, vs = [.ref a, v] ∧ H a = some (exo a C none) ∧ fmtV K H v ∧ ∀ dx, H dx = none → dx ≠ a → Q .non (upd (upd H dx (exd dx [(f, v)])) a (exo a C (some dx)))
def spE2 (K : PySem.W.Frag) (C : Addr) (f g : Str) : Sp := fun vs H Q _ => ∃ a v u, vs = [.ref a, v, u] ∧ H a = some (exo a C none) ∧ fmtV K H v ∧ fmtV K H u ∧ ∀ dx, H dx = none → dx ≠ a → Q .non (upd (upd (upd H dx (exd dx [(f, v)])) a (exo a C (some dx))) dx (exd dx [(g, u), (f, v)]))
section
variable {P : Program} {w : World} {K : PySem.W.Frag} {mg : Str → Option Value} {base : Heap} {C : Addr} {qual : Str} {st : Stmt} {fa : Addr} {fd : FuncData} {p0 p1 p2 p3 p4 q1 q2 q3 q4 q5 q6 q7 q8 : Pos} {a1 : Expr} {ar : Arg} {x y f g : Str} {is : List Nat}
/-- what is the same for all of them -/
structure SupT (st : Stmt) (a1 : Expr) (p0 p1 p2 p3 p4 : Pos) (ar : Arg) (rest : List Stmt) : Prop where
  bd : defBody st = .Expr (.Call (.Attribute (.Call (.Name "super" p0) [] [] p1) "__init__" p2) [a1] [] p3) p4 :: rest
  first : ((defArgs st).posonlyargs ++ (defArgs st).args).head? = some ar
  ar : ar.arg = "self"
  pl : ∀ env : PySem.Env, starEach [a1] env = (false, eval a1 env) :: starEach [] env
  sw : ∀ env : PySem.Env, env.scope = defScope st → swapsWith (.Call (.Attribute (.Call (.Name "super" p0) [] [] p1) "__init__" p2) [a1] [] p3) none p4.line env = pure false
  ev : ∀ env : PySem.Env, ∃ pl : Sem Bool, eval (.Call (.Attribute (.Call (.Name "super" p0) [] [] p1) "__init__" p2) [a1] [] p3) env = (do
      let ov ← attributeBase (.Call (.Name "super" p0) [] [] p1) "__init__" env (eval (.Call (.Name "super" p0) [] [] p1) env)
      standAt p2.atName
      let (f, first) ← holding [ov] (getMethod ov "__init__" pl)
      callWith p3 f first (backTo p3 (starEach [a1] env)) [])
theorem fn_e0 (F : SupF P K "__init__" qual st fa fd C) (S : SupScope ["self"] ["self"] (defScope st)) (T : SupC P K C) (Tx : SupT st a1 p0 p1 p2 p3 p4 ar [])
    (hm : ∀ (X : Cx), X.N = ([("self" : Str)] : List Str) → X.env.scope = defScope st → ∀ k, Room k X.A → PE X a1 (tMsg X.K [])) : FnOk P w K mg base (L2.CX P w) 1 fa fd ["self"] (spE0 C) := by
  refine fn_sup (k := 0) F S T Tx.bd Tx.first (by rw [Tx.ar]; rfl) (fun vs H Q E ⟨a, e, _⟩ => by rw [e]; rfl) Tx.pl Tx.sw Tx.ev fun cdv cc A outer s H vs Q E hr ⟨a, ev, ha, q⟩ => ?_
  subst ev
  refine ⟨a, _, _, rfl, ha, hm _ rfl rfl _ hr, pss_nil, ⟨fun i hi => by simp at hi, fun m => ⟨rfl, ha, q⟩⟩⟩
theorem fn_e1 (F : SupF P K "__init__" qual st fa fd C) (S : SupScope ["self", x] ["self", x] (defScope st)) (T : SupC P K C) (Tx : SupT st a1 p0 p1 p2 p3 p4 ar [.Assign [.Attribute (.Name "self" q1) f q2] (.Name x q3) q4])
    (hno : PySem.W.findIn K (.ref C) f = some none) (hxd : (x == ("__debug__" : Str)) = false) (hxc : (x == ("__classdict__" : Str)) = false)
    (hsw : ∀ env : PySem.Env, env.scope = defScope st → swapsWith (.Name x q3) (some (.Attribute (.Name "self" q1) f q2)) q4.line env = pure false)
    (his : ∀ i ∈ is, i = 1)
    (hm : ∀ (X : Cx), X.N = ([("self" : Str), x] : List Str) → X.env.scope = defScope st → ∀ k, Room k X.A → PE X a1 (tMsg X.K is)) : FnOk P w K mg base (L2.CX P w) 1 fa fd ["self", x] (spE1 K C f) := by
  refine fn_sup (k := 0) F S T Tx.bd Tx.first (by rw [Tx.ar]; rfl) (fun vs H Q E ⟨a, v, e, _⟩ => by rw [e]; rfl) Tx.pl Tx.sw Tx.ev fun cdv cc A outer s H vs Q E hr ⟨a, v, ev, ha, fv, q⟩ => ?_
  subst ev
  refine ⟨a, _, _, rfl, ha, hm _ rfl rfl _ hr, pss_one (ps_ost (pe_var (i := 0) rfl (.inl (S.par _ (by simp)))) (pe_var (i := 1) rfl (.inl (S.par _ (by simp))) hxd hxc) (hsw _ rfl)), ⟨fun i hi => ?_, fun m => ⟨rfl, ha, ?_⟩⟩⟩
  · rw [his i hi]
    exact ⟨v, rfl, fv⟩
  · exact ⟨v, rfl, .ref a, rfl, a, C, rfl, T.oex, hno, .inl ⟨ha, fun dx n ne => q dx n ne⟩⟩
theorem fn_e2 (F : SupF P K "__init__" qual st fa fd C) (S : SupScope ["self", x, y] ["self", x, y] (defScope st)) (T : SupC P K C) (Tx : SupT st a1 p0 p1 p2 p3 p4 ar [.Assign [.Attribute (.Name "self" q1) f q2] (.Name x q3) q4, .Assign [.Attribute (.Name "self" q5) g q6] (.Name y q7) q8])
    (hno : PySem.W.findIn K (.ref C) f = some none) (hno2 : PySem.W.findIn K (.ref C) g = some none) (hxd : (x == ("__debug__" : Str)) = false) (hxc : (x == ("__classdict__" : Str)) = false) (hyd : (y == ("__debug__" : Str)) = false) (hyc : (y == ("__classdict__" : Str)) = false)
    (hsw : ∀ env : PySem.Env, env.scope = defScope st → swapsWith (.Name x q3) (some (.Attribute (.Name "self" q1) f q2)) q4.line env = pure false) (hsw2 : ∀ env : PySem.Env, env.scope = defScope st → swapsWith (.Name y q7) (some (.Attribute (.Name "self" q5) g q6)) q8.line env = pure false)
    (his : ∀ i ∈ is, i = 1 ∨ i = 2)
    (hm : ∀ (X : Cx), X.N = ([("self" : Str), x, y] : List Str) → X.env.scope = defScope st → ∀ k, Room k X.A → PE X a1 (tMsg X.K is)) : FnOk P w K mg base (L2.CX P w) 1 fa fd ["self", x, y] (spE2 K C f g) := by
  refine fn_sup (k := 0) F S T Tx.bd Tx.first (by rw [Tx.ar]; rfl) (fun vs H Q E ⟨a, v, u, e, _⟩ => by rw [e]; rfl) Tx.pl Tx.sw Tx.ev fun cdv cc A outer s H vs Q E hr ⟨a, v, u, ev, ha, fv, fu, q⟩ => ?_
  subst ev
  refine ⟨a, _, _, rfl, ha, hm _ rfl rfl _ hr, pss_cons (ps_ost (pe_var (i := 0) rfl (.inl (S.par _ (by simp)))) (pe_var (i := 1) rfl (.inl (S.par _ (by simp))) hxd hxc) (hsw _ rfl))
    (pss_one (ps_ost (pe_var (i := 0) rfl (.inl (S.par _ (by simp)))) (pe_var (i := 2) rfl (.inl (S.par _ (by simp))) hyd hyc) (hsw2 _ rfl))), ⟨fun i hi => ?_, fun m => ⟨rfl, ha, ?_⟩⟩⟩
  · rcases his i hi with e | e
    · rw [e]; exact ⟨v, rfl, fv⟩
    · rw [e]; exact ⟨u, rfl, fu⟩
  · refine ⟨v, rfl, .ref a, rfl, a, C, rfl, T.oex, hno, .inl ⟨ha, fun dx n ne => ?_⟩⟩
    exact ⟨u, rfl, .ref a, rfl, a, C, rfl, T.oex, hno2, .inr ⟨dx, [(f, v)], upd_same, by rw [upd_ne ne, upd_same], by simp, q dx n ne⟩⟩
end
end DL

set_option maxHeartbeats 4000000
namespace DL
open PySem PySem.Spec PyProof.Rows L2
theorem Roots.newXd {Z : Wd} {H : Hp} {p : Addr} {c : Nat} {ns : List Str} {vs : List V} {ds : List D} {rs : List (V × T)} (hl : vs.length = ds.length) (hn : ns.length = vs.length) (h : Roots Z H (vs.zip (ds.map T.fz) ++ rs)) (hp : H p = none) : Roots Z (upd H p (.xd (ns.zip vs))) ((.ref p, .fz (.xd c ns ds)) :: rs) := by
  obtain ⟨F, _, s, ow, n, d⟩ := h
  obtain ⟨f1, f2, o1, o2, rfl⟩ := OwnR.split ow
  have Fp : F p = none := s.free hp
  obtain ⟨r, e⟩ := rps_of (OwnR.of (by rw [List.length_map]; exact hl) o1)
  subst e
  have ne : ∀ b ∈ f2, b ≠ p := fun b hb => by
    obtain ⟨x, e⟩ := o2.there b hb
    exact ne_of_none e hp
  have sF : Same F (upd F p (.xd (ns.zip vs))) := same_new Fp
  refine ⟨upd F p (.xd (ns.zip vs)), f2, fun b x e => ?_, ⟨[], f2, ⟨⟨p, vs, rfl, upd_same, hn, Rps.mono sF r⟩, rfl⟩, OwnR.stay sF o2 fun b hb => upd_ne (ne b hb), rfl⟩, n, fun b hb => ?_⟩
  · by_cases hb : b = p
    · subst hb
      rw [upd_same] at e ⊢
      exact e
    · rw [upd_ne hb] at e ⊢
      exact s b x e
  · rw [upd_ne (ne b hb)]
    exact d b hb
def fmtI : D → Bool
  | .int i => intF i
  | _ => false
/-- data that an error's message may show -/
def fmtD : D → Bool
  | .str y => decide (y.length ≤ 1000000)
  | .int i => intF i
  | .tup ds => decide (ds.length ≤ 500) && ds.all fmtI
  | _ => false
theorem fmtI_ok {Z : Wd} {H : Hp} : ∀ {vs : List V} {ds : List D}, Rps Z H vs ds → ds.all fmtI = true → ∃ l : List Int, vs = l.map V.int ∧ l.length = ds.length ∧ ∀ i ∈ l, intF i = true
  | [], [], _, _ => ⟨[], rfl, rfl, fun i h => by simp at h⟩
  | v :: vs, d :: ds, r, h => by
    rw [List.all_cons, Bool.and_eq_true] at h
    obtain ⟨l, e1, e2, e3⟩ := fmtI_ok r.2 h.2
    cases d with
    | int i =>
      have ev : v = .int i := r.1
      refine ⟨i :: l, by rw [ev, e1]; rfl, by simp [e2], fun j hj => ?_⟩
      rcases List.mem_cons.mp hj with rfl | hj
      · exact h.1
      · exact e3 j hj
    | _ => simp [fmtI] at h
  | [], _ :: _, r, _ => r.elim
  | _ :: _, [], r, _ => r.elim
theorem fmtD_ok {Z : Wd} {H : Hp} {v : V} {d : D} (r : Rp Z H v d) (h : fmtD d = true) : fmtV Z.K H v := by
  cases d with
  | str y => exact .inl ⟨y, r, of_decide_eq_true h⟩
  | int i => exact .inr (.inl ⟨i, r, h⟩)
  | tup ds =>
    obtain ⟨a, vs, e, q, rp⟩ := r
    have h : (decide (ds.length ≤ 500) && ds.all fmtI) = true := h
    rw [Bool.and_eq_true] at h
    obtain ⟨l, e1, e2, e3⟩ := fmtI_ok rp h.2
    exact .inr (.inr ⟨a, l, e, e1 ▸ q, by rw [e2]; exact of_decide_eq_true h.1, e3⟩)
  | _ => simp [fmtD] at h
/-- an own error class of the number c, named x, with its fields -/
structure Err (P : Program) (w : World) (K : PySem.W.Frag) (mg : Str → Option Value) (base : Heap) (C : Nat → Addr) (c : Nat) (x : Str) (ps : List Str) (sp : Sp) : Prop where
  ex : ∃ fI fd, OexC K (C c) ∧ PySem.W.findIn K (.ref (C c)) "__init__" = some (some (.ref fI)) ∧ PySem.W.typeIn K (.ref fI) = some (.type "function") ∧ FnOk P w K mg base (L2.CX P w) 1 fI fd ps sp ∧ Binds K fd ps [] ∧ mg x = some (.ref (C c))
@[simp] def fRaise (c : Nat) (ns : List Str) (fs : M (List T)) (env : Env) : RS := (fs env).s fun ts e => if ts.length = ns.length ∧ (frzs ts).all fmtD = true then .ex ⟨c, some (ns.reverse, (frzs ts).reverse)⟩ e else .no
section
variable {X : Cx} {io0 : List Nat} {s0 : L2.St} {n : Nat} {C : Nat → Addr} {W : WX} {e e2 : Expr} {fs : M (List T)} {src : List (Option Nat)} {c : Nat} {ps : List Str} {x f g : Str} {p pos pos' : Pos}
theorem rd_sA {G : Sg} {W : WX} {fs : M (List T)} {k : List T → Env → RS} {σ : L2.St} {ex : List (V × T)} {env : Env} {H : Hp} {D : Ends} {Q : List V → Hp → Prop} (r : Rel G H σ env ex) (h : AftS G W D ex ((fs env).s k))
    (hk : ∀ H' vs ts e, vs.length = ts.length → src.length = ts.length → Rel G H' σ e (vs.zip ts ++ ex) → AftS G W D ex (k ts e) → Q vs H') : rdA G W src fs σ H Q := by
  refine ⟨env, ex, r, ?_⟩
  cases e1 : fs env with
  | no => rw [e1] at h; exact h
  | ex x e => rw [e1] at h; exact h σ
  | ok ts e => rw [e1] at h; exact fun H' vs hl hs hsrc r' => hk H' vs ts e hl hs r' h
theorem draise1 (F : Err X.prog X.w X.K X.mg X.base C c x ps (spE1 X.K (C c) f)) (hr : Room 2 X.A) (ha : DA X ⟨⟨X.K, C⟩, io0, s0, n, false⟩ W [e] src fs) (hg : Gl X x := by rfl)
    (hdb : (x == ("__debug__" : Str)) = false := by decide) (he : starEach [e] X.env = (false, eval e X.env) :: starEach [] X.env := by rfl) (hpl : (backTo pos (starEach [] X.env)).any (·.1) = false := by rfl) :
    DS X ⟨⟨X.K, C⟩, io0, s0, n, false⟩ W (.Raise (some (.Call (.Name x p) [e] [] pos)) none pos') (fRaise c [f] fs) := fun gd => by
  obtain ⟨fI, fd, T, iC, tI, F1, hb, hm⟩ := F.ex
  refine (ps_raise (gd.calm rfl) gd.tk (pmk_oex T iC tI F1 hr hb .nil passL hg hm (ha gd) hdb he hpl)).imp fun D σ H ⟨env, ex, r, h⟩ => ?_
  refine rd_sA r h fun H1 vs ts e' hl hs r1 h1 => ?_
  split at h1
  · rename_i hts
    obtain ⟨hlen, hf⟩ := hts
    have hlen : ts.length = 1 := hlen
    obtain ⟨t, rfl⟩ : ∃ t, ts = [t] := by
      rcases ts with _ | ⟨t, _ | ⟨u, ts⟩⟩
      · cases hlen
      · exact ⟨t, rfl⟩
      · cases hlen
    obtain ⟨v, rfl⟩ : ∃ v, vs = [v] := by
      rcases vs with _ | ⟨t, _ | ⟨u, ts⟩⟩
      · cases hl
      · exact ⟨t, rfl⟩
      · cases hl
    have r2 : Rel ⟨⟨X.K, C⟩, io0, s0, n, false⟩ H1 σ e' ((v, .fz (frz t)) :: ex) := Rel.freeze (t := t) r1
    have hfd : fmtD (frz t) = true := by simpa [frzs] using hf
    have fv : fmtV X.K H1 v := fmtD_ok (Z := ⟨X.K, C⟩) r2.out1.fz hfd
    refine ⟨by simp, fun a na => ⟨a, v, rfl, upd_same, fv.mono (same_upd na), fun dx nd ne => ⟨rfl, dx, [(f, v)], upd_same, by rw [upd_ne ne, upd_same], by rw [upd_ne ne] at nd; exact nd, ?_⟩⟩⟩
    have nd1 : H1 dx = none := by rw [upd_ne ne] at nd; exact nd
    have eq : upd (del (upd (upd (upd H1 a (exo a (C c) none)) dx (exd dx [(f, v)])) a (exo a (C c) (some dx))) a) dx (.xd [(f, v)]) = upd H1 dx (.xd [(f, v)]) := by
      funext b
      by_cases hb : b = dx
      · rw [hb, upd_same, upd_same]
      · rw [upd_ne hb, upd_ne hb]
        by_cases hba : b = a
        · rw [hba, del_same, na]
        · rw [del_ne hba, upd_ne hba, upd_ne hb, upd_ne hba]
    rw [eq]
    have hx : XOk ⟨⟨X.K, C⟩, io0, s0, n, false⟩ W σ ex e' ⟨c, some ([f], [frz t])⟩ := h1 σ
    refine hx _ dx (r2.back1 ?_)
    exact Roots.newXd (Z := ⟨X.K, C⟩) (c := c) (ns := [f]) (vs := [v]) (ds := [frz t]) rfl rfl r2.out1 nd1
  · exact h1.elim
theorem draise2 (F : Err X.prog X.w X.K X.mg X.base C c x ps (spE2 X.K (C c) f g)) (hr : Room 2 X.A) (ha : DA X ⟨⟨X.K, C⟩, io0, s0, n, false⟩ W [e, e2] src fs) (hg : Gl X x := by rfl)
    (hdb : (x == ("__debug__" : Str)) = false := by decide) (he : starEach [e, e2] X.env = (false, eval e X.env) :: starEach [e2] X.env := by rfl) (hpl : (backTo pos (starEach [e2] X.env)).any (·.1) = false := by rfl) :
    DS X ⟨⟨X.K, C⟩, io0, s0, n, false⟩ W (.Raise (some (.Call (.Name x p) [e, e2] [] pos)) none pos') (fRaise c [f, g] fs) := fun gd => by
  obtain ⟨fI, fd, T, iC, tI, F1, hb, hm⟩ := F.ex
  refine (ps_raise (gd.calm rfl) gd.tk (pmk_oex T iC tI F1 hr hb .nil passL hg hm (ha gd) hdb he hpl)).imp fun D σ H ⟨env, ex, r, h⟩ => ?_
  refine rd_sA r h fun H1 vs ts e' hl hs r1 h1 => ?_
  split at h1
  · rename_i hts
    obtain ⟨hlen, hf⟩ := hts
    have hlen : ts.length = 2 := hlen
    obtain ⟨t, t', rfl⟩ : ∃ t t', ts = [t, t'] := by
      rcases ts with _ | ⟨t, _ | ⟨u, _ | ⟨z, ts⟩⟩⟩
      · cases hlen
      · cases hlen
      · exact ⟨t, u, rfl⟩
      · cases hlen
    obtain ⟨v, v', rfl⟩ : ∃ v v', vs = [v, v'] := by
      rcases vs with _ | ⟨t, _ | ⟨u, _ | ⟨z, ts⟩⟩⟩
      · cases hl
      · cases hl
      · exact ⟨t, u, rfl⟩
      · cases hl
    have r1 : Rel ⟨⟨X.K, C⟩, io0, s0, n, false⟩ H1 σ e' ((v, t) :: (v', t') :: ex) := r1
    have r2 : Rel ⟨⟨X.K, C⟩, io0, s0, n, false⟩ H1 σ e' ((v', .fz (frz t')) :: (v, .fz (frz t)) :: ex) := (Rel.freeze r1).perm (.swap ..) |>.freeze
    have hfd : fmtD (frz t) = true ∧ fmtD (frz t') = true := by simpa [frzs] using hf
    have fv' : fmtV X.K H1 v' := fmtD_ok (Z := ⟨X.K, C⟩) r2.out1.fz hfd.2
    have fv : fmtV X.K H1 v := fmtD_ok (Z := ⟨X.K, C⟩) r2.drop.out1.fz hfd.1
    refine ⟨by simp, fun a na => ⟨a, v, v', rfl, upd_same, fv.mono (same_upd na), fv'.mono (same_upd na), fun dx nd ne => ⟨rfl, dx, [(g, v'), (f, v)], by rw [upd_ne (Ne.symm ne), upd_same], upd_same, by rw [upd_ne ne] at nd; exact nd, ?_⟩⟩⟩
    have nd1 : H1 dx = none := by rw [upd_ne ne] at nd; exact nd
    have eq : upd (del (upd (upd (upd (upd H1 a (exo a (C c) none)) dx (exd dx [(f, v)])) a (exo a (C c) (some dx))) dx (exd dx [(g, v'), (f, v)])) a) dx (.xd [(g, v'), (f, v)]) = upd H1 dx (.xd [(g, v'), (f, v)]) := by
      funext b
      by_cases hb : b = dx
      · rw [hb, upd_same, upd_same]
      · rw [upd_ne hb, upd_ne hb]
        by_cases hba : b = a
        · rw [hba, del_same, na]
        · rw [del_ne hba, upd_ne hb, upd_ne hba, upd_ne hb, upd_ne hba]
    rw [eq]
    have hx : XOk ⟨⟨X.K, C⟩, io0, s0, n, false⟩ W σ ex e' ⟨c, some ([g, f], [frz t', frz t])⟩ := h1 σ
    refine hx _ dx (r2.back1 ?_)
    exact Roots.newXd (Z := ⟨X.K, C⟩) (c := c) (ns := [g, f]) (vs := [v', v]) (ds := [frz t', frz t]) rfl rfl (Rel.out (l := [(v', .fz (frz t')), (v, .fz (frz t))]) r2) nd1
  · exact h1.elim
end
end DL

set_option maxHeartbeats 4000000
namespace DL
open PySem PySem.Spec PyProof.Rows L2
/-! ### several clauses, with or without a name -/
abbrev Cl := Value × Option Nat × (Addr → Value → Option Addr → TS)
def endI (D : Ends) : Option Nat → Ends
  | none => D
  | some i => { nx := fun σ' H' => D.nx (σ'.set i none) H', rt := D.rt, bk := fun σ' H' => D.bk (σ'.set i none) H', ct := fun σ' H' => D.ct (σ'.set i none) H' }
def setI (σ : L2.St) (a : Addr) : Option Nat → L2.St
  | none => σ
  | some i => σ.set i (some (.ref a))
def wM (K : PySem.W.Frag) (Wout : WX) (D : Ends) : List Cl → WX
  | [] => Wout
  | (c, oi, ts) :: r => fun cls d σ H => ∃ b, PySem.W.exmOne K cls c = some b ∧ (b = true → ∀ a, H a = none → ts a cls d (endI D oi) (setI σ a oi) H) ∧ (b = false → wM K Wout D r cls d σ H)
inductive HdsM (X : Cx) : List ExceptHandler → List Cl → Prop
  | nil : HdsM X [] []
  | cons {x : Str} {c : Value} {ts : Addr → Value → Option Addr → TS} {b₀ : Stmt} {suite : List Stmt} {np pos' : Pos} {hds : List ExceptHandler} {l : List Cl} (hc : Names X x c)
      (hsu : ∀ (a : Addr) (oe : Obj) (cls : Value) (d : Option Addr) (pn : List (Addr × Obj)), Zc cls d oe → (∃ vs, oe.data = .fields vs) → PSs (X.suite a ((a, oe) :: pn)) (b₀ :: suite) (ts a cls d)) (r : HdsM X hds l) :
      HdsM X (.ExceptHandler (some (.Name x np)) none (b₀ :: suite) pos' :: hds) ((c, none, ts) :: l)
  | consA {x n : Str} {i : Nat} {c : Value} {ts : Addr → Value → Option Addr → TS} {b₀ : Stmt} {suite : List Stmt} {np pos' : Pos} {hds : List ExceptHandler} {l : List Cl} (hi : X.N[i]? = some n) (hln : X.env.kindOf n = some .local) (hc : Names X x c)
      (hsu : ∀ (a : Addr) (oe : Obj) (cls : Value) (d : Option Addr) (pn : List (Addr × Obj)), Zc cls d oe → (∃ vs, oe.data = .fields vs) → PSs (X.suite a ((a, oe) :: pn)) (b₀ :: suite) (ts a cls d)) (r : HdsM X hds l) :
      HdsM X (.ExceptHandler (some (.Name x np)) (some n) (b₀ :: suite) pos' :: hds) ((c, some i, ts) :: l)
theorem ps_tryM {X : Cx} {body : List Stmt} {h₀ : ExceptHandler} {hds : List ExceptHandler} {l : List Cl} {pos : Pos} {tb : WX → TS} {Wout : WX} (hs : X.stack = X.env :: X.outer) (hf : X.env.frame = some X.env.locals) (hN : X.N.Nodup) (tk : Takes X Wout)
    (hb : ∀ (W : WX) (pn : List (Addr × Obj)) (xe : Value → Shared → Prop), Takes (X.tr pn xe) W → PassesOwn (model X.prog X.w) X.A X.env xe → PSs (X.tr pn xe) body (tb W))
    (hh : HdsM X (h₀ :: hds) l) : PS X (.Try body (h₀ :: hds) [] [] pos) (fun D σ H => tb (wM X.K Wout D l) D σ H) := by
  refine ⟨fun pins s σ H D I h => ?_⟩
  have ok := I.ok
  have hfr : X.A.frames = some (X.env :: X.outer) := by rw [ok.frames, hs]
  refine wpAny_Try_except ?_
  refine wpAny_mono ((hb (wM X.K Wout D l) (X.pn ++ pins) (fun e s₁ => wpAny (model X.prog X.w) X.A (noteFrame e X.env) (fun _ s₂ => wpAny (model X.prog X.w) X.A (setFlight e none) (fun _ s₃ =>
    wpAny (model X.prog X.w) X.A (handleBy e X.env (h₀ :: hds)) (SP X pins D) X.xe s₃) X.xe s₂) X.xe s₁) (fun u s' xx => ?_) PassesOwn.looking).run [] s σ H D (I.toTry _) h) (fun f s1 hsp => ?_) (fun e s1 he => he)
  · obtain ⟨a, B, sI, pins', σ', H', cls, d, rfl, J', nb, up, sky, na, os, ag, w⟩ := xx
    have J : Inv X pins σ' H' sI := J'.ofTry ok
    have sky' : Sky B (X.env :: X.outer) a (Zc cls d) X.env.locals s'.heap := by rw [← hs]; exact sky
    show wpAny (model X.prog X.w) X.A (noteFrame (.ref a) X.env) _ _ _
    refine Sky.land Zc.steady hfr hf sky' fun h3 fl3 up3 => ?_
    have J3 : Inv X pins σ' H' { s' with heap := h3 } := J.landed nb fl3.1 (up.trans up3) os ag
    obtain ⟨oe3, vs3, he3, hz3, hd3⟩ := fl3.there
    have notFr : ∀ {h : Heap} {o : Obj} {vs : Array Value}, h.FunFrames B (X.env :: X.outer) → h.get? a = some o → o.data = .fields vs → a ∉ frs (X.env :: X.outer) := fun {h o vs} ff e dd hm => by
      obtain ⟨_, o', e', hnf⟩ := ff.mem hm
      rw [e] at e'; cases e'
      exact hnf _ dd
    have nfr := notFr fl3.2.2.1 he3 hd3
    have nL : a ≠ X.env.locals := fun z => nfr (List.mem_filterMap.mpr ⟨X.env, List.mem_cons_self, by rw [hf, z]⟩)
    have nF : a ∉ X.fs := fun hm => by
      obtain ⟨e, he, q⟩ := List.mem_filterMap.mp hm
      exact nfr (List.mem_filterMap.mpr ⟨e, List.mem_cons_of_mem _ he, q⟩)
    have S3 := J3.suite he3 hd3 na nL nF
    have go : ∀ {hds' : List ExceptHandler} {l' : List Cl}, HdsM X hds' l' → wM X.K Wout D l' cls d σ' H' →
        wpAny (model X.prog X.w) X.A (handleBy (.ref a) X.env hds') (SP X pins D) X.xe { s' with heap := h3 } := by
      intro hds' l' hk
      induction hk with
      | nil =>
        intro w
        refine wpAny_handleBy_nil ?_
        obtain ⟨k1, k2, k3, oe, vs, T, oT, ts', he, hz, hd, h1, hr⟩ := id fl3
        unfold PySem.passOn
        refine wpAny_bind (wpAny_field he hd h1 ?_)
        rw [if_neg (show ¬ ((Value.ref T == Value.none) = true) from by simp)]
        have fin : wpAny (model X.prog X.w) X.A (setFlight (.ref a) X.env.frame) (fun _ s4 => wpAny (model X.prog X.w) X.A (throw (.ref a) : Sem Flow) (SP X pins D) X.xe s4) X.xe { s' with heap := h3 } := by
          rw [hf]
          refine HandSPX.setFlight_upZ fl3 fun h4 hh4 up4 => wpAny_throw (tk _ _ ?_)
          exact ⟨a, B, sI, pins, σ', H', cls, d, rfl, J, nb, (up.trans up3).trans up4, .inr (.inr (by rw [hs]; exact hh4)), na, os, ag, w⟩
        first
          | exact wpAny_bind (wpAny_pure (wpAny_bind fin))
          | exact wpAny_bind fin
      | @cons x c ts b₀ suite np pos' hds2 l2 hc hsu r ih =>
        intro w
        obtain ⟨b, hb1, hyes, hno⟩ := w
        refine wpAny_handleBy_cons (codeAny_handlers_test ?_) (by intro q; cases q)
        have LT : PySem.W.Looks (model X.prog X.w) h3 (typeOf (.ref a)) cls := fun A Q E s k q => wpAny_typeOf_ref (k _ _ he3) (by rw [hz3.1]; exact q)
        have LM := PySem.W.exm_one (M := model X.prog X.w) (J3.kIn) LT hb1
        have test : ∀ {Q : Value → Shared → Prop} {E : Value → Shared → Prop}, Q c { s' with heap := h3 } → wpAny (model X.prog X.w) (X.A.mark (some (.ref a))) (eval (.Name x np) X.env) Q E { s' with heap := h3 } := fun {Q E} q => by
          obtain ⟨hg, hdbg, hm | ⟨hm, hv, hnn⟩⟩ := hc
          · exact ld_glob (X := X.suite a ((a, oe3) :: (X.pn ++ pins))) S3 hg hm q hdbg
          · exact ld_blt (X := X.suite a ((a, oe3) :: (X.pn ++ pins))) S3 hg hm hv q hnn hdbg
        refine test (LM.here ?_)
        cases b with
        | true =>
          refine codeAny_handlers_suite ?_
          refine HandSPX.lands_againZ fl3 fun h4 fl4 up4 => ?_
          have J4 : Inv X pins σ' H' { s' with heap := h4 } := J.landed nb fl4.1 ((up.trans up3).trans up4) os ag
          obtain ⟨oe4, vs4, he4, hz4, hd4⟩ := fl4.there
          have S4 := J4.suite he4 hd4 na nL nF
          refine wpAny_mono ((hsu a oe4 cls d (X.pn ++ pins) hz4 ⟨_, hd4⟩).run [] _ _ H' _ S4 (hyes rfl a na)) (fun f s6 hsp => ?_) (fun _ _ z => False.elim z)
          cases f with
          | next =>
            obtain ⟨σ6, H6, S6, q6⟩ := hsp
            exact ⟨_, _, S6.unsuite ok, q6⟩
          | brk =>
            obtain ⟨σ6, H6, S6, q6⟩ := hsp
            exact ⟨_, _, S6.unsuite ok, q6⟩
          | cont =>
            obtain ⟨σ6, H6, S6, q6⟩ := hsp
            exact ⟨_, _, S6.unsuite ok, q6⟩
          | ret u =>
            obtain ⟨v6, σ6, H6, S6, r6, q6⟩ := hsp
            exact ⟨_, _, _, S6.unsuite ok, r6, q6⟩
        | false =>
          show wpAny _ X.A (handleBy (.ref a) X.env hds2) _ _ _
          exact ih (hno rfl)
      | @consA x n i c ts b₀ suite np pos' hds2 l2 hi hln hc hsu r ih =>
        intro w
        obtain ⟨b, hb1, hyes, hno⟩ := w
        refine wpAny_handleBy_cons (codeAny_handlers_test ?_) (by intro q; cases q)
        have LT : PySem.W.Looks (model X.prog X.w) h3 (typeOf (.ref a)) cls := fun A Q E s k q => wpAny_typeOf_ref (k _ _ he3) (by rw [hz3.1]; exact q)
        have LM := PySem.W.exm_one (M := model X.prog X.w) (J3.kIn) LT hb1
        have test : ∀ {Q : Value → Shared → Prop} {E : Value → Shared → Prop}, Q c { s' with heap := h3 } → wpAny (model X.prog X.w) (X.A.mark (some (.ref a))) (eval (.Name x np) X.env) Q E { s' with heap := h3 } := fun {Q E} q => by
          obtain ⟨hg, hdbg, hm | ⟨hm, hv, hnn⟩⟩ := hc
          · exact ld_glob (X := X.suite a ((a, oe3) :: (X.pn ++ pins))) S3 hg hm q hdbg
          · exact ld_blt (X := X.suite a ((a, oe3) :: (X.pn ++ pins))) S3 hg hm hv q hnn hdbg
        refine test (LM.here ?_)
        cases b with
        | true =>
          refine codeAny_handlers_suite_as ?_
          refine HandSPX.lands_againZ fl3 fun h4 fl4 up4 => ?_
          have J4 : Inv X pins σ' H' { s' with heap := h4 } := J.landed nb fl4.1 ((up.trans up3).trans up4) os ag
          obtain ⟨oe4, vs4, he4, hz4, hd4⟩ := fl4.there
          have S4 := J4.suite he4 hd4 na nL nF
          refine store_ok (X := X.suite a ((a, oe4) :: (X.pn ++ pins))) (v := .ref a) S4 hN hi (.inl hln) rfl (fun s5 S5 => ?_) (.inr hln)
          refine wpAny_mono ((hsu a oe4 cls d (X.pn ++ pins) hz4 ⟨_, hd4⟩).run [] s5 _ H' _ S5 (hyes rfl a na)) (fun f s6 hsp => ?_) (fun _ _ z => False.elim z)
          have end_ : ∀ {σ6 : L2.St} {H6 : Hp} {Q : Shared → Prop}, Inv (X.suite a ((a, oe4) :: (X.pn ++ pins))) [] σ6 H6 s6 → (∀ s7, Inv X pins (σ6.set i none) H6 s7 → Q s7) →
              wpAny (model X.prog X.w) X.A (do bindName X.env n .none; unbindBehindTheSuite X.env n pos') (fun _ s7 => Q s7) X.xe s6 := fun {σ6 H6 Q} S6 hq => gone_ok (S6.unsuite ok) hN hi hln hq
          cases f with
          | next =>
            obtain ⟨σ6, H6, S6, q6⟩ := hsp
            exact end_ S6 fun s7 J7 => ⟨_, _, J7, q6⟩
          | brk =>
            obtain ⟨σ6, H6, S6, q6⟩ := hsp
            exact end_ S6 fun s7 J7 => ⟨_, _, J7, q6⟩
          | cont =>
            obtain ⟨σ6, H6, S6, q6⟩ := hsp
            exact end_ S6 fun s7 J7 => ⟨_, _, J7, q6⟩
          | ret u =>
            obtain ⟨v6, σ6, H6, S6, r6, q6⟩ := hsp
            exact end_ S6 fun s7 J7 => ⟨_, _, _, J7, r6, q6⟩
        | false =>
          show wpAny _ X.A (handleBy (.ref a) X.env hds2) _ _ _
          exact ih (hno rfl)
    exact go hh w
  · cases f with
    | next =>
      obtain ⟨σ', H', J', q⟩ := hsp
      exact wpAny_execs_nil ⟨σ', H', J'.ofTry ok, q⟩
    | brk =>
      obtain ⟨σ', H', J', q⟩ := hsp
      exact ⟨σ', H', J'.ofTry ok, q⟩
    | cont =>
      obtain ⟨σ', H', J', q⟩ := hsp
      exact ⟨σ', H', J'.ofTry ok, q⟩
    | ret u =>
      obtain ⟨v, σ', H', J', r, q⟩ := hsp
      exact ⟨v, σ', H', J'.ofTry ok, r, q⟩
end DL

set_option maxHeartbeats 4000000
namespace DL
open PySem PySem.Spec PyProof.Rows L2
/-! ### objects: their roots -/
section
variable {Z : Wd} {F H : Hp}
/-- a new instance -/
theorem Roots.newO {x dx : Addr} {c : Nat} {rs : List (V × T)} (h : Roots Z H rs) (nx : H x = none) (nd : H dx = none) (ne : dx ≠ x) : Roots Z (upd (upd H dx (.own x)) x (.ins (Z.C c) dx [])) ((.ref x, .obj c [] []) :: rs) := by
  have nx2 : upd H dx (.own x) x = none := by rw [upd_ne (Ne.symm ne)]; exact nx
  obtain ⟨F, f, s, o, n, d⟩ := (h.other (o := .own x) nd).other (o := .ins (Z.C c) dx []) nx2
  obtain ⟨F0, f0, s0, o0, n0, d0⟩ := h
  have k1 : ∀ b ∈ f0, b ≠ x ∧ b ≠ dx := fun b hb => by
    obtain ⟨u, e⟩ := o0.there b hb
    exact ⟨ne_of_none e nx, ne_of_none e nd⟩
  refine ⟨F0, x :: dx :: f0, fun b u e => ?_, ⟨[x, dx], f0, ⟨x, dx, [], [], rfl, upd_same, rfl, by rw [upd_ne ne, upd_same], rfl, rfl⟩, OwnR.stay (Same.refl F0) o0 fun b hb => ?_, rfl⟩, ?_, fun b hb => ?_⟩
  · have e1 := s0 b u e
    rw [upd_ne (ne_of_none e1 nx), upd_ne (ne_of_none e1 nd)]
    exact e1
  · rw [upd_ne (k1 b hb).1, upd_ne (k1 b hb).2]
  · refine List.nodup_cons.mpr ⟨fun hb => ?_, List.nodup_cons.mpr ⟨fun hb => (k1 dx hb).2 rfl, n0⟩⟩
    rcases List.mem_cons.mp hb with e | hb
    · exact ne e.symm
    · exact (k1 x hb).1 rfl
  · rcases List.mem_cons.mp hb with rfl | hb
    · exact s0.free nx
    rcases List.mem_cons.mp hb with rfl | hb
    · exact s0.free nd
    · exact d0 b hb
theorem Roots.obj {v : V} {c : Nat} {ns : List Str} {ts : List T} {rs : List (V × T)} (h : Roots Z H ((v, .obj c ns ts) :: rs)) : ∃ p dx vs, v = .ref p ∧ H p = some (.ins (Z.C c) dx (ns.zip vs)) ∧ ns.length = vs.length ∧ vs.length = ts.length := by
  obtain ⟨F, _, s, ⟨_, f2, ⟨a, dx, ws, f1, e1, e2, l, e3, o1, rfl⟩, o2, rfl⟩, n, d⟩ := h
  exact ⟨a, dx, ws, e1, e2, l, o1.length⟩
/-- an owned object changed -/
theorem Roots.putO {p dx : Addr} {c : Nat} {ns ms : List Str} {ws vs : List V} {us ts : List T} {rs qs : List (V × T)} (h : Roots Z H ((.ref p, .obj c ns us) :: rs)) (hw : H p = some (.ins (Z.C c) dx (ns.zip ws))) (hlw : ns.length = ws.length) (hl : vs.length = ts.length) (hm : ms.length = vs.length)
    (hp : (ws.zip us ++ rs).Perm (vs.zip ts ++ qs)) : Roots Z (upd H p (.ins (Z.C c) dx (ms.zip vs))) ((.ref p, .obj c ms ts) :: qs) := by
  obtain ⟨F, _, s, ⟨_, f2, ⟨a, dx', ws', f1, e1, e2, l, e3, o1, rfl⟩, o2, rfl⟩, n, d⟩ := h
  cases e1
  rw [hw] at e2
  have e2 := Option.some.inj e2
  injection e2 with _ ed ez
  subst ed
  have ew : ws = ws' := by
    have z1 := congrArg (List.map Prod.snd) ez
    rw [List.map_snd_zip (by omega), List.map_snd_zip (by omega)] at z1
    exact z1
  subst ew
  obtain ⟨g, og, pg⟩ := OwnR.perm hp (o1.to.append o2)
  have n' : (p :: dx :: (f1 ++ f2)).Nodup := n
  obtain ⟨np, nn⟩ := List.nodup_cons.mp n'
  obtain ⟨ndx, nn⟩ := List.nodup_cons.mp nn
  have gp : ∀ b ∈ g, b ≠ p := fun b hb e => by
    subst e
    exact np (List.mem_cons_of_mem _ (pg.mem_iff.mpr hb))
  have Fp : F p = none := d p (List.mem_append_left _ (List.mem_cons_self ..))
  have Fd : F dx = none := d dx (List.mem_append_left _ (List.mem_cons_of_mem _ (List.mem_cons_self ..)))
  have hdp : dx ≠ p := fun e => np (by rw [e]; exact List.mem_cons_self ..)
  obtain ⟨g1, g2, k1, k2, rfl⟩ := OwnR.split og
  refine ⟨F, p :: dx :: (g1 ++ g2), fun b x e => ?_, ⟨p :: dx :: g1, g2, ⟨p, dx, vs, g1, rfl, upd_same, hm, by rw [upd_ne hdp]; exact e3, Owns.stay (Same.refl F) (OwnR.of hl k1) fun b hb => upd_ne (gp b (List.mem_append_left _ hb)), rfl⟩, OwnR.stay (Same.refl F) k2 fun b hb => upd_ne (gp b (List.mem_append_right _ hb)), rfl⟩,
    List.nodup_cons.mpr ⟨fun hb => ?_, List.nodup_cons.mpr ⟨fun hb => ndx (pg.mem_iff.mpr hb), pg.nodup_iff.mp nn⟩⟩, fun b hb => ?_⟩
  · rw [upd_ne (ne_of_none e Fp)]
    exact s b x e
  · rcases List.mem_cons.mp hb with e | hb
    · exact hdp e.symm
    · exact gp p hb rfl
  · rcases List.mem_cons.mp hb with rfl | hb
    · exact Fp
    rcases List.mem_cons.mp hb with rfl | hb
    · exact Fd
    · exact d b (List.mem_cons_of_mem _ (List.mem_cons_of_mem _ (pg.mem_iff.mpr hb)))
end
/-! ### fields -/
/-- the item under a name -/
@[simp] def getN {α : Type} (f : Str) : List Str → List α → Option α
  | n :: ns, x :: xs => if n = f then some x else getN f ns xs
  | _, _ => none
@[simp] def putNs (f : Str) : List Str → List Str
  | [] => [f]
  | n :: ns => if n = f then n :: ns else n :: putNs f ns
@[simp] def putTs {α : Type} (f : Str) (t : α) : List Str → List α → List α
  | [], _ => [t]
  | n :: ns, x :: xs => if n = f then t :: xs else x :: putTs f t ns xs
  | _ :: _, [] => [t]
theorem lookup_zip {α : Type} (f : Str) : ∀ (ns : List Str) (xs : List α), (ns.zip xs).lookup f = getN f ns xs
  | [], _ => by simp
  | _ :: _, [] => by simp
  | n :: ns, x :: xs => by
    have ih := lookup_zip f ns xs
    by_cases h : n = f
    · subst h; simp
    · have hb : (f == n) = false := beq_eq_false_iff_ne.mpr fun z => h z.symm
      simp [List.lookup, hb, h, ih]
theorem putF_zip (f : Str) (v : V) : ∀ (ns : List Str) (vs : List V), ns.length = vs.length → putF f v (ns.zip vs) = (putNs f ns).zip (putTs f v ns vs)
  | [], [], _ => rfl
  | [], _ :: _, h => by cases h
  | _ :: _, [], h => by cases h
  | n :: ns, x :: xs, h => by
    have ih := putF_zip f v ns xs (Nat.succ.inj h)
    by_cases e : n = f
    · simp [putF, e]
    · simp [putF, e, ih]
theorem putNs_len {α : Type} (f : Str) (t : α) : ∀ (ns : List Str) (xs : List α), ns.length = xs.length → (putNs f ns).length = (putTs f t ns xs).length
  | [], [], _ => rfl
  | [], _ :: _, h => by cases h
  | _ :: _, [], h => by cases h
  | n :: ns, x :: xs, h => by
    have ih := putNs_len f t ns xs (Nat.succ.inj h)
    by_cases e : n = f
    · simpa [e] using h
    · simp [e, ih]
theorem putTs_len {α β : Type} (f : Str) (t : α) (u : β) : ∀ (ns : List Str) (xs : List α) (ys : List β), ns.length = xs.length → xs.length = ys.length → (putTs f t ns xs).length = (putTs f u ns ys).length
  | [], [], [], _, _ => rfl
  | [], _ :: _, _, h, _ => by cases h
  | _ :: _, [], _, h, _ => by cases h
  | [], [], _ :: _, _, h => by cases h
  | _ :: _, _ :: _, [], _, h => by cases h
  | n :: ns, x :: xs, y :: ys, h, h' => by
    have ih := putTs_len f t u ns xs ys (Nat.succ.inj h) (Nat.succ.inj h')
    by_cases e : n = f
    · simpa [e] using h'
    · simp [e, ih]
theorem putTs_perm (f : Str) (v : V) (t : T) (rs : List (V × T)) : ∀ (ns : List Str) (ws : List V) (us : List T), ns.length = ws.length → ws.length = us.length → ∃ l : List (V × T), (ws.zip us ++ (v, t) :: rs).Perm ((putTs f v ns ws).zip (putTs f t ns us) ++ (l ++ rs))
  | [], [], [], _, _ => ⟨[], .refl _⟩
  | [], _ :: _, _, h, _ => by cases h
  | _ :: _, [], _, h, _ => by cases h
  | [], [], _ :: _, _, h => by cases h
  | _ :: _, _ :: _, [], _, h => by cases h
  | n :: ns, x :: xs, y :: ys, h, h' => by
    by_cases e : n = f
    · refine ⟨[(x, y)], ?_⟩
      simp only [putTs, e, if_true]
      show ((x, y) :: (xs.zip ys ++ (v, t) :: rs)).Perm ((v, t) :: (xs.zip ys ++ (x, y) :: rs))
      exact (List.perm_middle.cons _).trans ((List.Perm.swap ..).trans (List.perm_middle.symm.cons _))
    · obtain ⟨l, p⟩ := putTs_perm f v t rs ns xs ys (Nat.succ.inj h) (Nat.succ.inj h')
      refine ⟨l, ?_⟩
      simp only [putTs, e, if_false]
      exact p.cons _
theorem getN_rel {Z : Wd} {F : Hp} {f : Str} : ∀ {ns : List Str} {vs : List V} {ds : List D} {d : D}, ns.length = vs.length → Rps Z F vs ds → getN f ns ds = some d → ∃ v, getN f ns vs = some v ∧ Rp Z F v d
  | [], _, _, _, _, _, h => by simp at h
  | _ :: _, _, [], _, _, _, h => by simp at h
  | _ :: _, [], _ :: _, _, h, _, _ => by cases h
  | n :: ns, v :: vs, d :: ds, x, hl, r, h => by
    by_cases e : n = f
    · simp only [getN, e, if_true] at h ⊢
      cases h
      exact ⟨v, rfl, r.1⟩
    · simp only [getN, e, if_false] at h ⊢
      exact getN_rel (Nat.succ.inj hl) r.2 h
theorem getN_own {Z : Wd} {F H : Hp} {f : Str} : ∀ {ns : List Str} {vs : List V} {ts : List T} {fp : List Addr} {t : T}, ns.length = vs.length → Owns Z F H vs ts fp → getN f ns ts = some t → ∃ v g, getN f ns vs = some v ∧ Own Z F H v t g
  | [], _, _, _, _, _, _, h => by simp at h
  | _ :: _, _, [], _, _, _, _, h => by simp at h
  | _ :: _, [], _ :: _, _, _, h, _, _ => by cases h
  | n :: ns, v :: vs, d :: ds, _, x, hl, r, h => by
    obtain ⟨f1, f2, h1, h2, rfl⟩ := r
    by_cases e : n = f
    · simp only [getN, e, if_true] at h ⊢
      cases h
      exact ⟨v, f1, rfl, h1⟩
    · simp only [getN, e, if_false] at h ⊢
      exact getN_own (Nat.succ.inj hl) h2 h
/-- what is known of a class and its fields -/
structure Fld (K : PySem.W.Frag) (C : Nat → Addr) (c : Nat) (f : Str) : Prop where
  cl : Cls K (C c)
  no : NoAttr K (C c) f
section
variable {X : Cx} {G : Sg} {W : WX} {a b c e o : Expr} {es : List Expr} {fa fb fc : M T} {fs : M (List T)} {src : List (Option Nat)} {pos p p' apos : Pos}
/-- o.f of a frozen object of the class k -/
@[simp] def gFld (k : Nat) (f : Str) : D → Option T
  | .obj c ns ds => if c = k then (getN f ns ds).map T.fz else none
  | _ => none
theorem gFld_ok {Z : Wd} {k : Nat} {f : Str} {H : Hp} {v : V} {d : D} {t : T} {rs : List (V × T)} (fl : Fld Z.K Z.C k f) (ro : Roots Z H ((v, .fz d) :: rs)) (h : gFld k f d = some t) : ∃ p dx gs w, v = .ref p ∧ H p = some (.ins (Z.C k) dx gs) ∧ gs.lookup f = some w ∧ Roots Z H ((w, t) :: rs) := by
  unfold gFld at h
  split at h
  · rename_i c ns ds
    split at h
    · rename_i ec
      subst ec
      obtain ⟨d', h1, rfl⟩ := Option.map_eq_some_iff.mp h
      obtain ⟨F, _, s, ⟨f1, f2, ⟨⟨p, dx, vs, e1, e2, l, r⟩, e0⟩, o2, rfl⟩, n, q⟩ := ro
      subst e0
      obtain ⟨w, ew, rw'⟩ := getN_rel l r h1
      exact ⟨p, dx, ns.zip vs, w, e1, s _ _ e2, by rw [lookup_zip]; exact ew, F, f2, s, ⟨[], f2, ⟨rw', rfl⟩, o2, rfl⟩, n, q⟩
    · cases h
  · cases h
theorem de_fld {k : Nat} {f : Str} (fl : Fld G.Z.K G.Z.C k f) (ha : DE X G W a fa) (hb : attributeBase a f X.env (eval a X.env) = eval a X.env := by rfl) : DE X G W (.Attribute a f pos) (fUn (gFld k f) fa) := fun gd =>
  (pe_fld (ha gd) hb).imp fun σ H Q ⟨env, ex, r, h⟩ => rd_then r h fun H' v t e r' h' => by
    cases e1 : gFld k f (frz t) with
    | none => rw [e1] at h'; exact h'.elim
    | some u =>
      rw [e1] at h'
      obtain ⟨p, dx, gs, w, ev, hp, hw, ro⟩ := gFld_ok fl r'.freeze.out1 e1
      rw [← gd.hK]
      exact ⟨p, G.Z.C k, dx, gs, w, ev, hp, fl.cl, fl.no, hw, h' H' w (r'.back1 ro)⟩
/-- x.f of a slot's object, which is not frozen -/
@[simp] def peekF (k : Nat) (f : Str) : T → Option T
  | .obj c ns ts => if c = k then (match getN f ns ts with | some (.fz d) => some (.fz d) | _ => none) else none
  | .fz d => gFld k f d
  | _ => none
@[simp] def fPeekF (i k : Nat) (f : Str) (env : Env) : R T := match env[i]? with
  | some (some t) => ofO env (peekF k f t)
  | _ => .no
theorem peekF_ok {Z : Wd} {k : Nat} {f : Str} {H : Hp} {v : V} {t u : T} {rs : List (V × T)} (fl : Fld Z.K Z.C k f) (ro : Roots Z H ((v, t) :: rs)) (h : peekF k f t = some u) : ∃ p dx gs w, v = .ref p ∧ H p = some (.ins (Z.C k) dx gs) ∧ gs.lookup f = some w ∧ Roots Z H ((w, u) :: (v, t) :: rs) := by
  unfold peekF at h
  split at h
  · rename_i c ns ts
    split at h
    · rename_i ec
      subst ec
      split at h
      · rename_i d ed
        cases h
        obtain ⟨F, fp, s, ow, n, q⟩ := ro
        obtain ⟨_, f2, ⟨p, dx, vs, f1, e1, e2, l, e3, o1, rfl⟩, o2, rfl⟩ := id ow
        obtain ⟨w, g, ew, og⟩ := getN_own l o1 ed
        exact ⟨p, dx, ns.zip vs, w, e1, e2, by rw [lookup_zip]; exact ew, F, _, s, ⟨[], _, ⟨og.1, rfl⟩, ow, rfl⟩, n, q⟩
      · cases h
    · cases h
  · exact gFld_ok fl ro.dup h
  · cases h
theorem dpeekF (i k : Nat) {x f : Str} (fl : Fld G.Z.K G.Z.C k f) (hN : X.N[i]? = some x := by rfl) (hv : Vis X.env.scope x := by first | exact Or.inl rfl | exact Or.inr (Or.inl rfl) | exact Or.inr (Or.inr rfl)) (hb : attributeBase (.Name x p) f X.env (eval (.Name x p) X.env) = eval (.Name x p) X.env := by rfl)
    (hd : (x == ("__debug__" : Str)) = false := by decide) (hcd : (x == ("__classdict__" : Str)) = false := by decide) : DE X G W (.Attribute (.Name x p) f pos) (fPeekF i k f) := fun gd =>
  (pe_fld (pe_var hN hv hd hcd) hb).imp fun σ H Q ⟨env, ex, r, h⟩ => by
    unfold fPeekF at h
    split at h
    · rename_i t et
      cases e1 : peekF k f t with
      | none => rw [e1] at h; exact h.elim
      | some u =>
        rw [e1] at h
        obtain ⟨v, ev, r1⟩ := r.take et
        obtain ⟨q, dx, gs, w, eq, hp, hw, ro⟩ := peekF_ok fl r1.out1 e1
        rw [← gd.hK]
        refine ⟨v, ev, q, G.Z.C k, dx, gs, w, eq, hp, fl.cl, fl.no, hw, h H w ?_⟩
        have r2 : Rel G H σ (env.set i none) ((w, u) :: (v, t) :: ex) := r1.back (l := [(w, u), (v, t)]) ro
        have r3 := (r2.perm (.swap ..)).put ev
        rw [List.set_set, set_self et] at r3
        exact r3
    · exact h.elim
/-- x.f = e for a slot's own object -/
@[simp] def putFS (i k : Nat) (f : Str) (t : T) (e : Env) : RS := match e[i]? with
  | some (some (.obj c ns ts)) => if c = k ∧ ns.length < 1000 then .nx (e.set i (some (.obj c (putNs f ns) (putTs f t ns ts)))) else .no
  | _ => .no
@[simp] def fSetF (i k : Nat) (f : Str) (fa : M T) (env : Env) : RS := match env[i]? with
  | some (some _) => (fa env).s fun t e => putFS i k f t e
  | _ => .no
theorem dsetF (i k : Nat) {x f : Str} (fl : Fld G.Z.K G.Z.C k f) (he : DE X G W e fa) (hN : X.N[i]? = some x := by rfl) (hv : Vis X.env.scope x := by first | exact Or.inl rfl | exact Or.inr (Or.inl rfl) | exact Or.inr (Or.inr rfl)) (hs : swapsWith e (some (.Attribute (.Name x p) f p')) pos.line X.env = pure false := by rfl)
    (hd : (x == ("__debug__" : Str)) = false := by decide) (hcd : (x == ("__classdict__" : Str)) = false := by decide) : DS X G W (.Assign [.Attribute (.Name x p) f p'] e pos) (fSetF i k f fa) := fun gd =>
  (ps_fld (pe_var hN hv hd hcd) (he gd) hs).imp fun D σ H ⟨env, ex, r, h⟩ => by
    unfold fSetF at h
    split at h
    · rename_i t0 et0
      obtain ⟨v, ev⟩ := r.1.2 i t0 et0
      refine rd_s r h fun H' y t e r' h' => ?_
      refine ⟨v, ev, ?_⟩
      unfold putFS at h'
      split at h'
      · rename_i c ns ts et
        split at h'
        · rename_i hc
          obtain ⟨rfl, hlen⟩ := hc
          obtain ⟨v', ev', r1⟩ := r'.take et
          rw [ev] at ev'
          cases ev'
          obtain ⟨q, dx, vs, eq, hp, hl, hl2⟩ := r1.out1.obj
          subst eq
          rw [← gd.hK]
          refine ⟨q, G.Z.C c, dx, ns.zip vs, rfl, hp, fl.cl, fl.no, by simp [← hl]; exact hlen, h' σ _ ?_⟩
          rw [putF_zip f y ns vs hl]
          have ro := Rel.out (l := [(V.ref q, T.obj c ns ts), (y, t)]) r1
          obtain ⟨l, pm⟩ := putTs_perm f y t (slots σ (e.set i none) ++ ex) ns vs ts hl hl2
          have ro2 := Roots.putO ro hp hl (vs := putTs f y ns vs) (ts := putTs f t ns ts) (ms := putNs f ns) (putTs_len f y t ns vs ts hl hl2) (putNs_len f y ns vs hl) pm
          have ro3 : Roots G.Z _ ((.ref q, .obj c (putNs f ns) (putTs f t ns ts)) :: (slots σ (e.set i none) ++ ex)) := (ro2.perm (List.perm_middle (a := (V.ref q, T.obj c (putNs f ns) (putTs f t ns ts))) (l₁ := l)).symm).drops
          have r2 : Rel G _ σ (e.set i none) ((.ref q, .obj c (putNs f ns) (putTs f t ns ts)) :: ex) := r1.back1 ro3
          have r3 := r2.put ev
          rw [List.set_set] at r3
          exact r3
        · exact h'.elim
      · exact h'.elim
    · exact h.elim
end
end DL

set_option maxHeartbeats 4000000
namespace DL
open PySem PySem.Spec PyProof.Rows L2
/-! ### a def that stands in a class: its promise -/
/-- the def m of the class k (by its record in the class), keeping a promise by its function -/
structure Dm (P : Program) (w : World) (K : PySem.W.Frag) (mg : Str → Option Value) (base : Heap) (C : Nat → Addr) (c : Nat) (x : Str) (k : Nat) (ps : List Str) (io : List Nat) (m : Mir) : Prop where
  ex : ∃ f fd, Meth K (C c) x f ∧ Binds K fd ps [] ∧ FnOk P w K mg base (L2.CX P w) k f fd ps (spOf ⟨K, C⟩ ps.length io m)
theorem Dm.mono {P : Program} {w : World} {K : PySem.W.Frag} {mg : Str → Option Value} {base : Heap} {C : Nat → Addr} {c : Nat} {x : Str} {j k : Nat} {ps : List Str} {io : List Nat} {m : Mir} (h : Dm P w K mg base C c x j ps io m) (hk : j ≤ k) : Dm P w K mg base C c x k ps io m := by
  obtain ⟨f, fd, h1, h2, h3⟩ := h.ex
  exact ⟨f, fd, h1, h2, h3.mono hk⟩
section
variable {X : Cx} {k : Nat} {C f : Addr} {fd : FuncData} {ps : List Str} {sp : Sp} {E : L2.St → XK}
/-- an instance is made, what is raised wished for at the slots -/
theorem runMakeS {pins : List (Addr × Obj)} {σ : L2.St} {H : Hp} {s : Shared} {Q : VK} {us : List Value} {vs : List V} (M : Mk X.K C f) (F : FnOk X.prog X.w X.K X.mg X.base (L2.CX X.prog X.w) k f fd ps sp) (hr : Room (k + 1) X.A) (hb : Binds X.K fd ps [])
    (hx : PassesAt (L2.CX X.prog X.w) X σ (E σ)) (I : Inv X pins σ H s) (r : Vals vs us)
    (h : ∀ x dx, H x = none → H dx = none → dx ≠ x → sp (.ref x :: vs) (upd (upd H dx (.own x)) x (.ins C dx [])) (fun v H2 => v = .non ∧ Q (.ref x) H2) (E σ)) : wpAny (model X.prog X.w) X.A (call (.ref C) us) (EP X pins σ Q) X.xe s := by
  let nx : Addr := s.heap.objs.size + 1
  have q0 := h nx s.heap.objs.size (I.hok.fresh (Nat.le_succ _)) (I.hok.fresh (Nat.le_refl _)) (Nat.ne_of_lt (Nat.lt_succ_self _))
  have J := Inv.made (C := C) I
  have rr : Vals (V.ref nx :: vs) (Value.ref nx :: us) := .cons rfl r
  have len : (Value.ref nx :: us).length = ps.length := by
    rw [← rr.length]
    exact F.len _ _ _ _ q0
  have bd := hb { s with heap := (s.heap.push PySem.W.emptyDict).push (PySem.W.instObj C s.heap.objs.size) } (Value.ref nx :: us) J.kIn (by rw [List.append_nil]; exact len)
  rw [List.append_nil] at bd
  refine wpAny_call (make_map (f := f) I.kIn M.makes M.init (beq_iff_eq.mp M.fn) (codeAny_mono (F.run _ X.stack _ _ ⟨Value.ref nx :: us, []⟩ (Value.ref nx :: us) _ _ (E σ) (hr.make C us []) (J.env0.make C us []) bd rr q0) fun res s' hq => ?_))
  cases res with
  | error er => exact hx pins _ _ er s' J hq
  | ok fl =>
    cases fl with
    | ret u =>
      obtain ⟨v, H', I3, rv, ev, q3⟩ := J.after hq
      subst ev
      exact ⟨rv, ⟨V.ref nx, H', I3, rfl, q3⟩⟩
    | next => exact False.elim hq
    | brk => exact False.elim hq
    | cont => exact False.elim hq
end
/-- C(e, ..) by its __init__'s function -/
@[simp] def retMk (e : Env) : RF → R T
  | .ok (.fz .non) [t] => .ok t e
  | .ex x [_] => .ex x e
  | _ => .no
@[simp] def fMake (c : Nat) (m : Mir) (src : List (Option Nat)) (fs : M (List T)) (env : Env) : R T := (fs env).bind fun ts e => retMk e (m (.obj c [] [] :: frzA src ts))
theorem rd_make {G : Sg} {W : WX} {σ : L2.St} {m : Mir} {n c : Nat} {src : List (Option Nat)} {ts : List T} {vs : List V} {Q : VK} {P : T → Env → Prop} {H : Hp} {e : Env} {ex : List (V × T)} (hP : ∀ t e H' v, P t e → Rel G H' σ e ((v, t) :: ex) → Q v H')
    (r : Rel G H σ e (vs.zip ts ++ ex)) (hl : vs.length = ts.length) (hn : vs.length + 1 = n) (h : Aft (XOk G W σ ex) P (retMk e (m (.obj c [] [] :: frzA src ts)))) (x dx : Addr) (nx : H x = none) (nd : H dx = none) (ne : dx ≠ x) :
    spOf G.Z n [0] m (.ref x :: vs) (upd (upd H dx (.own x)) x (.ins (G.Z.C c) dx [])) (fun v H2 => v = .non ∧ Q (.ref x) H2) (fun cls d H' => W cls d σ H') := by
  refine ⟨.obj c [] [] :: frzA src ts, slots σ e ++ ex, by simpa using hn, by simp [frzA_len, ← hl, hn], Roots.newO (Roots.frzA r.out) nx nd ne, ?_⟩
  cases em : m (.obj c [] [] :: frzA src ts) with
  | no => rw [em] at h; exact h.elim
  | ok t us =>
    rw [em] at h
    unfold retMk at h
    split at h
    · rename_i t' heq
      cases heq
      exact ⟨rfl, fun H' v q => ⟨q.fz, hP _ _ H' _ h (r.back1 q.drop)⟩⟩
    · rename_i heq; cases heq
    · exact h.elim
  | ex xx us =>
    rw [em] at h
    unfold retMk at h
    split at h
    · rename_i heq; cases heq
    · rename_i x' u' heq
      cases heq
      refine ⟨rfl, ?_⟩
      have h : XOk G W σ ex e xx := h
      unfold XOk at h
      unfold XF
      cases ed : xx.d with
      | none =>
        rw [ed] at h
        exact fun H' q => h H' (r.back (l := []) q.drop)
      | some p =>
        rw [ed] at h
        exact fun H' dx' q => h H' dx' (r.back1 ((q.perm (.swap ..)).drop))
    · exact h.elim
section
variable {X : Cx} {io0 : List Nat} {s0 : L2.St} {n : Nat} {C : Nat → Addr} {W : WX} {e o : Expr} {es : List Expr} {fs : M (List T)} {fo : M T} {src : List (Option Nat)} {k c : Nat} {ps : List Str} {io : List Nat} {m : Mir} {x : Str} {p pos apos : Pos}
/-- what a class wants to be made -/
structure MkC (K : PySem.W.Frag) (mg : Str → Option Value) (C : Nat → Addr) (c : Nat) (x : Str) : Prop where
  gl : mg x = some (.ref (C c))
  makes : PySem.W.makesIn K (C c) = true
  kp : PySem.W.keepIn K (.ref (C c)) = true
theorem MkC.of {K : PySem.W.Frag} {mg : Str → Option Value} {c : Nat} {f : Addr} (h : MkC K mg C c x) (a : Meth K (C c) "__init__" f) : Mk K (C c) f := ⟨h.makes, a.at_, a.fn, h.kp⟩
theorem dmake (F : Dm X.prog X.w X.K X.mg X.base C c "__init__" k ps [0] m) (M : MkC X.K X.mg C c x) (hr : Room (k + 1) X.A) (ha : DA X ⟨⟨X.K, C⟩, io0, s0, n, false⟩ W (e :: es) src fs) (hsl : src.length + 1 = ps.length := by rfl) (hg : Gl X x := by rfl)
    (hdb : (x == ("__debug__" : Str)) = false := by decide) (he : starEach (e :: es) X.env = (false, eval e X.env) :: starEach es X.env := by rfl) (hpl : (backTo pos (starEach es X.env)).any (·.1) = false := by rfl) :
    DE X ⟨⟨X.K, C⟩, io0, s0, n, false⟩ W (.Call (.Name x p) (e :: es) [] pos) (fMake c m src fs) := fun gd => by
  obtain ⟨f, fd, h1, h2, h3⟩ := F.ex
  refine ⟨fun pins s σ H Q I ⟨env, ex, r, h⟩ => ?_⟩
  refine wpAny_Call_Name_kw (ld_glob I hg M.gl ?_ hdb)
  have hA : rdA ⟨⟨X.K, C⟩, io0, s0, n, false⟩ W src fs σ H (fun vs H1 => ∀ x dx, H1 x = none → H1 dx = none → dx ≠ x → spOf ⟨X.K, C⟩ ps.length [0] m (.ref x :: vs) (upd (upd H1 dx (.own x)) x (.ins (C c) dx [])) (fun v H2 => v = .non ∧ Q (.ref x) H2) (fun cls d H' => W cls d σ H')) :=
    ⟨env, ex, r, aft_more (l := []) (aft_bind h) fun ts e' p H2 vs hl hs hsrc r2 => rd_make (G := ⟨⟨X.K, C⟩, io0, s0, n, false⟩) (P := fun t e => ∀ H' v, Rel _ H' σ e ((v, t) :: ex) → Q v H') (fun t e H' v q r' => q H' v r') r2 hl (by rw [hl, ← hs]; exact hsl) p⟩
  refine PySem.W.callWith_K (h₀ := X.base) I.ok.mod.kin M.kp (thn ((ha gd).run pos pins s σ H _ I hA) fun us s1 ⟨vs, H1, I1, rv, q⟩ => ⟨I1.kIn, ?_⟩) he hpl
  exact runMakeS (E := fun σ cls d H' => W cls d σ H') (M.of h1) h3 hr h2 (passAt gd.tk σ) I1 rv q
/-! ### o.m(e, ..) -/
@[simp] def methS (c : Nat) (x : Str) : D → Bool
  | .obj k ns _ => decide (k = c) && !ns.contains x
  | _ => false
@[simp] def fMeth (c : Nat) (x : Str) (m : Mir) (src : List (Option Nat)) (fo : M T) (fs : M (List T)) (env : Env) : R T := (fo env).bind fun t e => if methS c x (frz t) = true then (fs e).bind fun ts e2 => retF [] e2 (m (.fz (frz t) :: frzA src ts)) else .no
theorem no_lookup {x : Str} : ∀ {ns : List Str} {vs : List V}, ns.contains x = false → (ns.zip vs).lookup x = none
  | [], _, _ => by simp
  | _ :: _, [], _ => by simp
  | n :: ns, v :: vs, h => by
    have h1 : (x == n) = false ∧ ns.contains x = false := by simpa [List.contains_cons] using h
    have ih := no_lookup (ns := ns) (vs := vs) h1.2
    simp only [List.zip_cons_cons, List.lookup, h1.1]
    exact ih
theorem meth_at {Z : Wd} {H : Hp} {v : V} {d : D} {rs : List (V × T)} (ro : Roots Z H ((v, .fz d) :: rs)) (h : methS c x d = true) : ∃ a dx gs, v = .ref a ∧ H a = some (.ins (Z.C c) dx gs) ∧ gs.lookup x = none := by
  unfold methS at h
  split at h
  · obtain ⟨h1, h2⟩ := Bool.and_eq_true_iff.mp h
    have h1 := of_decide_eq_true h1
    subst h1
    obtain ⟨a, dx, vs, ev, e, l, _⟩ := ro.fz
    exact ⟨a, dx, _, ev, e, no_lookup (by simpa using h2)⟩
  · cases h
theorem dmeth (cl : Cls X.K (C c)) (F : Dm X.prog X.w X.K X.mg X.base C c x k ps [] m) (hr : Room k X.A) (ho : DE X ⟨⟨X.K, C⟩, io0, s0, n, false⟩ W o fo) (ha : DA X ⟨⟨X.K, C⟩, io0, s0, n, false⟩ W (e :: es) src fs) (hsl : src.length + 1 = ps.length := by rfl) {pl : Sem Bool}
    (hst : starEach (e :: es) X.env = (false, eval e X.env) :: starEach es X.env := by rfl) (hpl : (backTo pos (starEach es X.env)).any (·.1) = false := by rfl)
    (ht : eval (.Call (.Attribute o x apos) (e :: es) [] pos) X.env = (do
      let w1 ← eval o X.env
      standAt apos.atName
      let (f, w2) ← holding [w1] (getMethod w1 x pl)
      callWith pos f w2 (backTo pos (starEach (e :: es) X.env)) (backToKw pos (keywordEach [] X.env))) := by rfl) :
    DE X ⟨⟨X.K, C⟩, io0, s0, n, false⟩ W (.Call (.Attribute o x apos) (e :: es) [] pos) (fMeth c x m src fo fs) := fun gd => by
  obtain ⟨f, fd, h1, h2, h3⟩ := F.ex
  refine ⟨fun pins s σ H Q I ⟨env, ex, r, h⟩ => ?_⟩
  have hO : rdE ⟨⟨X.K, C⟩, io0, s0, n, false⟩ W fo σ H (fun y H1 => ∃ a dx gs, y = .ref a ∧ H1 a = some (.ins (C c) dx gs) ∧ gs.lookup x = none ∧ rdA ⟨⟨X.K, C⟩, io0, s0, n, false⟩ W src fs σ H1 (fun vs H2 => spOf ⟨X.K, C⟩ ps.length [] m (y :: vs) H2 Q (fun cls d H' => W cls d σ H'))) := by
    refine rd_then r h fun H1 y t e1 r1 h' => ?_
    split at h'
    · rename_i hm
      obtain ⟨a, dx, gs, ey, hy, hl⟩ := meth_at r1.freeze.out1 hm
      refine ⟨a, dx, gs, ey, hy, hl, e1, (y, .fz (frz t)) :: ex, r1.freeze, aft_more (l := [_]) (aft_bind h') fun ts e2 q H2 vs hlv hs hsrc r2 => ?_⟩
      have r3 : Rel _ H2 σ e2 ((y :: vs).zip (.fz (frz t) :: ts) ++ ex) := r2.perm List.perm_middle
      refine rd_call (G := ⟨⟨X.K, C⟩, io0, s0, n, false⟩) (src := none :: src) (js := []) (P := fun t e => ∀ H' v, Rel _ H' σ e ((v, t) :: ex) → Q v H') (fun t e H' v q r' => q H' v r') r3 (by simpa using hlv) (by simp only [List.length_cons, hlv, ← hs]; exact hsl) (by simpa using hs) (fun k j ek => ?_) rfl ?_
      · cases k with
        | zero => cases ek
        | succ k => exact hsrc k j ek
      · exact q
    · exact h'.elim
  refine PySem.W.methodCall_KW (pl := pl) (thn ((ho gd).run pins s σ H _ I hO) fun u s1 ⟨y, H1, I1, ry, a, dx, gs, ey, hy, hl, q⟩ => ?_) ht
  subst ey
  obtain rfl : u = Value.ref a := ry
  refine getmeth_ok I1 hy cl h1 hl ?_
  refine PySem.W.callWith_K (first := [Value.ref a]) (h₀ := X.base) I.ok.mod.kin h1.kp (thn ((ha gd).run pos pins s1 σ H1 _ I1 q) fun us s2 ⟨vs, H2, I2, rv, q2⟩ => ⟨I2.kIn, ?_⟩) hst hpl
  exact run_fnS (us := .ref a :: us) (vs := .ref a :: vs) (E := fun σ cls d H' => W cls d σ H') h3 hr h2 (passAt gd.tk σ) I2 (.cons rfl rv) q2
theorem dmeth0 (cl : Cls X.K (C c)) (F : Dm X.prog X.w X.K X.mg X.base C c x k ps [] m) (hr : Room k X.A) (ho : DE X ⟨⟨X.K, C⟩, io0, s0, n, false⟩ W o fo) (hsl : 1 = ps.length := by rfl) {pl : Sem Bool}
    (ht : eval (.Call (.Attribute o x apos) [] [] pos) X.env = (do
      let w1 ← eval o X.env
      standAt apos.atName
      let (f, w2) ← holding [w1] (getMethod w1 x pl)
      callWith pos f w2 (backTo pos (starEach [] X.env)) (backToKw pos (keywordEach [] X.env))) := by rfl) :
    DE X ⟨⟨X.K, C⟩, io0, s0, n, false⟩ W (.Call (.Attribute o x apos) [] [] pos) (fMeth c x m [] fo fNil) := fun gd => by
  obtain ⟨f, fd, h1, h2, h3⟩ := F.ex
  refine ⟨fun pins s σ H Q I ⟨env, ex, r, h⟩ => ?_⟩
  have hO : rdE ⟨⟨X.K, C⟩, io0, s0, n, false⟩ W fo σ H (fun y H1 => ∃ a dx gs, y = .ref a ∧ H1 a = some (.ins (C c) dx gs) ∧ gs.lookup x = none ∧ spOf ⟨X.K, C⟩ ps.length [] m [y] H1 Q (fun cls d H' => W cls d σ H')) := by
    refine rd_then r h fun H1 y t e1 r1 h' => ?_
    split at h'
    · rename_i hm
      obtain ⟨a, dx, gs, ey, hy, hl⟩ := meth_at r1.freeze.out1 hm
      refine ⟨a, dx, gs, ey, hy, hl, ?_⟩
      have r3 : Rel _ H1 σ e1 ([y].zip [.fz (frz t)] ++ ex) := r1.freeze
      exact rd_call (G := ⟨⟨X.K, C⟩, io0, s0, n, false⟩) (src := [none]) (js := []) (P := fun t e => ∀ H' v, Rel _ H' σ e ((v, t) :: ex) → Q v H') (fun t e H' v q r' => q H' v r') r3 rfl hsl rfl (fun k j ek => by
        cases k with
        | zero => cases ek
        | succ k => simp at ek) rfl h'
    · exact h'.elim
  refine PySem.W.methodCall_KW (pl := pl) (thn ((ho gd).run pins s σ H _ I hO) fun u s1 ⟨y, H1, I1, ry, a, dx, gs, ey, hy, hl, q⟩ => ?_) ht
  subst ey
  obtain rfl : u = Value.ref a := ry
  refine getmeth_ok I1 hy cl h1 hl ?_
  exact PySem.W.callWith_K0 (first := [Value.ref a]) I1.kIn h1.kp (run_fnS (us := [.ref a]) (vs := [.ref a]) (E := fun σ cls d H' => W cls d σ H') h3 hr h2 (passAt gd.tk σ) I1 (.cons rfl .nil) q)
end
end DL

set_option maxHeartbeats 4000000
namespace DL
open PySem PySem.Spec PyProof.Rows L2
/-! ### operators that a class of one's own may define -/
section
variable {X : Cx} {G : Sg} {W : WX} {a b c e o : Expr} {es : List Expr} {fa fb fc : M T} {pos p : Pos}
/-- what is wanted of an answer -/
abbrev Wnt (G : Sg) (W : WX) (σ : L2.St) (ex : List (V × T)) (Q : VK) (r : R T) : Prop := Aft (XOk G W σ ex) (fun t e => ∀ H' v, Rel G H' σ e ((v, t) :: ex) → Q v H') r
/-- a two-place operation on data that may call a def -/
def OpX (X : Cx) (G : Sg) (W : WX) (F : Value → Value → Sem Value) (g : D → D → RF) : Prop := Good X G W → ∀ (pins : List (Addr × Obj)) (s : Shared) (σ : L2.St) (H : Hp) (v1 v2 : V) (w1 w2 : Value) (d1 d2 : D) (e : Env) (ex : List (V × T)) (Q : VK),
  Inv X pins σ H s → RelV v1 w1 → RelV v2 w2 → Rel G H σ e ((v2, .fz d2) :: (v1, .fz d1) :: ex) → Wnt G W σ ex Q (retF [] e (g d1 d2)) → wpAny (model X.prog X.w) X.A (F w1 w2) (EP X pins σ Q) X.xe s
@[simp] def gB (g : D → D → Option T) (a b : D) : RF := match g a b with
  | some t => .ok t []
  | none => .no
@[simp] def gOr (g h : D → D → RF) (a b : D) : RF := match g a b with
  | .no => h a b
  | r => r
theorem OpX.of {F : Value → Value → Sem Value} {g : D → D → Option T} (h : OpD X G.Z F g) : OpX X G W F (gB g) := fun gd pins s σ H v1 v2 w1 w2 d1 d2 e ex Q I r1 r2 r k => by
  obtain ⟨rr, h1, h2⟩ := h
  refine h1 pins s σ H v1 v2 w1 w2 Q I r1 r2 ?_
  unfold gB at k
  cases eg : g d1 d2 with
  | none => rw [eg] at k; exact k.elim
  | some t =>
    rw [eg] at k
    exact h2 H _ v1 v2 d1 d2 t Q (Rel.out (l := [(v2, .fz d2), (v1, .fz d1)]) r) eg fun H' v q => k H' v (r.back1 q)
theorem OpX.or {F : Value → Value → Sem Value} {g h : D → D → RF} (k1 : OpX X G W F g) (k2 : OpX X G W F h) : OpX X G W F (gOr g h) := fun gd pins s σ H v1 v2 w1 w2 d1 d2 e ex Q I r1 r2 r k => by
  unfold gOr at k
  cases eg : g d1 d2 with
  | no => rw [eg] at k; exact k2 gd pins s σ H v1 v2 w1 w2 d1 d2 e ex Q I r1 r2 r k
  | ok t us => rw [eg] at k; exact k1 gd pins s σ H v1 v2 w1 w2 d1 d2 e ex Q I r1 r2 r (by rw [eg]; exact k)
  | ex x us => rw [eg] at k; exact k1 gd pins s σ H v1 v2 w1 w2 d1 d2 e ex Q I r1 r2 r (by rw [eg]; exact k)
@[simp] def fBin2 (g : D → D → RF) (fa fb : M T) (env : Env) : R T := (fa env).bind fun a e1 => (fb e1).bind fun b e2 => retF [] e2 (g (frz a) (frz b))
theorem rd_bin2 {F : Value → Value → Sem Value} {g : D → D → RF} (gd : Good X G W) (ho : OpX X G W F g) (ha : PE X a (rdE G W fa)) (hb : PE X b (rdE G W fb)) {pins : List (Addr × Obj)} {s : Shared} {σ : L2.St} {H : Hp} {Q : VK} (I : Inv X pins σ H s) (h : rdE G W (fBin2 g fa fb) σ H Q) :
    wpAny (model X.prog X.w) X.A (eval a X.env) (fun v s1 => wpAny (model X.prog X.w) X.A (eval b X.env) (fun u s2 => wpAny (model X.prog X.w) X.A (F v u) (EP X pins σ Q) X.xe s2) X.xe s1) X.xe s := by
  obtain ⟨env, ex, r, h⟩ := h
  have hA : rdE G W fa σ H (fun v1 H1 => ∃ t1 e1, Rel G H1 σ e1 ((v1, t1) :: ex) ∧ Wnt G W σ ex Q ((fb e1).bind fun b e2 => retF [] e2 (g (frz t1) (frz b)))) := rd_then r h fun H1 v1 t1 e1 r1 h1 => ⟨t1, e1, r1, h1⟩
  refine thn (ha.run pins s σ H _ I hA) fun v s1 ⟨v1, H1, I1, rv1, t1, e1, r1, h1⟩ => ?_
  have hB : rdE G W fb σ H1 (fun v2 H2 => ∃ t2 e2, Rel G H2 σ e2 ((v2, t2) :: (v1, t1) :: ex) ∧ Wnt G W σ ex Q (retF [] e2 (g (frz t1) (frz t2)))) :=
    ⟨e1, (v1, t1) :: ex, r1, aft_more (l := [(v1, t1)]) (aft_bind h1) fun t2 e2 q H2 v2 r2 => ⟨t2, e2, r2, q⟩⟩
  refine thn (hb.run pins s1 σ H1 _ I1 hB) fun u s2 ⟨v2, H2, I2, rv2, t2, e2, r2, h2⟩ => ?_
  have r3 : Rel G H2 σ e2 ((v2, .fz (frz t2)) :: (v1, .fz (frz t1)) :: ex) := (((r2.freeze).perm (.swap ..)).freeze).perm (.swap ..)
  exact ho gd pins s2 σ H2 v1 v2 v u _ _ e2 ex Q I2 rv1 rv2 r3 h2
theorem de_opX {op : Operator} {g : D → D → RF} (ho : OpX X G W (binaryOp op) g) (ha : DE X G W a fa) (hb : DE X G W b fb) : DE X G W (.BinOp a op b pos) (fBin2 g fa fb) := fun gd =>
  ⟨fun pins s σ H Q I h => wpAny_BinOp (rd_bin2 gd ho (ha gd) (hb gd) I h)⟩
theorem de_cmpX {op : CmpOp} {g : D → D → RF} (ho : OpX X G W (compareOp op) g) (ha : DE X G W a fa) (hb : DE X G W b fb) (h1 : behindInMarks op b = false := by first | exact nomark _ | rfl) : DE X G W (.Compare a [op] [b] pos) (fBin2 g fa fb) := fun gd =>
  ⟨fun pins s σ H Q I h => wpAny_Compare1 (rd_bin2 gd ho (ha gd) (hb gd) I h) h1⟩
theorem dt_cmpX {op : CmpOp} {g : D → D → RF} (ho : OpX X G W (compareOp op) g) (ha : DE X G W a fa) (hb : DE X G W b fb) (h1 : behindInMarks op b = false := by first | exact nomark _ | rfl) : DT X G W (.Compare a [op] [b] pos) (fTestB (fBin2 g fa fb)) := fun gd => by
  refine ⟨fun pins s σ H Q I ⟨env, ex, r, h⟩ => ?_⟩
  have h2 : rdE G W (fBin2 g fa fb) σ H (fun v H1 => ∃ k, v = .bl k ∧ Q k H1) := rd_then r h fun H' v t e r' h' => by
    split at h'
    · rename_i k
      have ev : v = .bl k := r'.out1.fz
      exact ⟨k, ev, h' H' r'.drop⟩
    · exact h'.elim
  refine wpAny_isTrue_Compare1 (thn (rd_bin2 gd ho (ha gd) (hb gd) I h2) fun v s1 z1 => thn z1 fun u s2 z2 => thn z2 fun w s3 ⟨y, H3, I3, ry, k, ey, q⟩ => ?_) h1
  subst ey
  cases ry
  exact wpAny_truthy_bool ⟨H3, I3, q⟩
/-! ### by an own method -/
theorem cmpBack {pins : List (Addr × Obj)} {σ : L2.St} {Q : VK} {u : Value} {s' : Shared} (h : EP X pins σ Q u s') : PySem.W.CmpBack (EP X pins σ Q) u s' := by
  cases u with
  | notImplemented =>
    obtain ⟨v, H', I, r, q⟩ := h
    cases v with
    | non => cases r
    | bl => cases r
    | int => obtain ⟨t, z⟩ := r; cases z
    | str => obtain ⟨t, z⟩ := r; cases z
    | byt => obtain ⟨t, z⟩ := r; cases z
    | flt => obtain ⟨t, z⟩ := r; cases z
    | ref => cases r
    | ty => cases r
  | _ => exact h
/-- both of the class k -/
@[simp] def gO (k : Nat) (m : Mir) : D → D → RF
  | .obj c ns ds, .obj c' ns' ds' => if c = k ∧ c' = k then m [.fz (.obj c ns ds), .fz (.obj c' ns' ds')] else .no
  | _, _ => .no
theorem inst_at {Z : Wd} {P : Program} {w : World} {H : Hp} {h : Heap} {v : V} {c : Nat} {ns : List Str} {ds : List D} (r : Rp Z H v (.obj c ns ds)) (hok : HOk P w H h) : ∃ a dx od, v = .ref a ∧ PySem.W.InstAt h a (PySem.W.instObj (Z.C c) dx) (Z.C c) (some od) := by
  obtain ⟨a, dx, vs, ev, e, l, _⟩ := r
  obtain ⟨mA, O, _⟩ := ins_get hok e
  obtain ⟨od, J, _⟩ := O.look
  exact ⟨a, dx, od, ev, J⟩
theorem call2 {io0 : List Nat} {s0 : L2.St} {n : Nat} {C : Nat → Addr} {k : Nat} {f : Addr} {fd : FuncData} {ps : List Str} {m : Mir} (gd : Good X ⟨⟨X.K, C⟩, io0, s0, n, false⟩ W) (hr : Room k X.A) (h2 : Binds X.K fd ps []) (h3 : FnOk X.prog X.w X.K X.mg X.base (L2.CX X.prog X.w) k f fd ps (spOf ⟨X.K, C⟩ ps.length [] m)) (hsl : 2 = ps.length)
    {pins : List (Addr × Obj)} {s : Shared} {σ : L2.St} {H : Hp} {v1 v2 : V} {w1 w2 : Value} {d1 d2 : D} {e : Env} {ex : List (V × T)} {Q : VK} (I : Inv X pins σ H s) (r1 : RelV v1 w1) (r2 : RelV v2 w2) (r : Rel ⟨⟨X.K, C⟩, io0, s0, n, false⟩ H σ e ((v2, .fz d2) :: (v1, .fz d1) :: ex)) (h : Wnt ⟨⟨X.K, C⟩, io0, s0, n, false⟩ W σ ex Q (retF [] e (m [.fz d1, .fz d2]))) :
    wpAny (model X.prog X.w) X.A (call (.ref f) [w1, w2]) (EP X pins σ Q) X.xe s := by
  have r3 : Rel ⟨⟨X.K, C⟩, io0, s0, n, false⟩ H σ e ([v1, v2].zip [.fz d1, .fz d2] ++ ex) := r.perm (.swap ..)
  refine run_fnS (us := [w1, w2]) (vs := [v1, v2]) (E := fun σ cls d H' => W cls d σ H') h3 hr h2 (passAt gd.tk σ) I (.cons r1 (.cons r2 .nil)) ?_
  exact rd_call (G := ⟨⟨X.K, C⟩, io0, s0, n, false⟩) (src := [none, none]) (js := []) (io := []) (P := fun t e => ∀ H' v, Rel _ H' σ e ((v, t) :: ex) → Q v H') (fun t e H' v q r' => q H' v r') r3 rfl hsl rfl (fun k j ek => by
    rcases k with _ | _ | k
    · cases ek
    · cases ek
    · simp at ek) rfl h
theorem call1 {io0 : List Nat} {s0 : L2.St} {n : Nat} {C : Nat → Addr} {k : Nat} {f : Addr} {fd : FuncData} {ps : List Str} {m : Mir} (gd : Good X ⟨⟨X.K, C⟩, io0, s0, n, false⟩ W) (hr : Room k X.A) (h2 : Binds X.K fd ps []) (h3 : FnOk X.prog X.w X.K X.mg X.base (L2.CX X.prog X.w) k f fd ps (spOf ⟨X.K, C⟩ ps.length [] m)) (hsl : 1 = ps.length)
    {pins : List (Addr × Obj)} {s : Shared} {σ : L2.St} {H : Hp} {v1 : V} {w1 : Value} {d1 : D} {e : Env} {ex : List (V × T)} {Q : VK} (I : Inv X pins σ H s) (r1 : RelV v1 w1) (r : Rel ⟨⟨X.K, C⟩, io0, s0, n, false⟩ H σ e ((v1, .fz d1) :: ex)) (h : Wnt ⟨⟨X.K, C⟩, io0, s0, n, false⟩ W σ ex Q (retF [] e (m [.fz d1]))) :
    wpAny (model X.prog X.w) X.A (call (.ref f) [w1]) (EP X pins σ Q) X.xe s := by
  have r3 : Rel ⟨⟨X.K, C⟩, io0, s0, n, false⟩ H σ e ([v1].zip [.fz d1] ++ ex) := r
  refine run_fnS (us := [w1]) (vs := [v1]) (E := fun σ cls d H' => W cls d σ H') h3 hr h2 (passAt gd.tk σ) I (.cons r1 .nil) ?_
  exact rd_call (G := ⟨⟨X.K, C⟩, io0, s0, n, false⟩) (src := [none]) (js := []) (io := []) (P := fun t e => ∀ H' v, Rel _ H' σ e ((v, t) :: ex) → Q v H') (fun t e H' v q r' => q H' v r') r3 rfl hsl rfl (fun k j ek => by
    rcases k with _ | k
    · cases ek
    · simp at ek) rfl h
variable {io0 : List Nat} {s0 : L2.St} {n : Nat} {C : Nat → Addr} {k c : Nat} {ps : List Str} {m : Mir}
/-- first op second, both of the class, by its own method -/
theorem ox_bin {op : Operator} {x : Str} (F : Dm X.prog X.w X.K X.mg X.base C c x k ps [] m) (hr : Room k X.A) (hf : PySem.W.selfFirst X.K (C c) = true) (hx : x = PySem.dunder op.info.2 := by rfl) (hsl : 2 = ps.length := by rfl) : OpX X ⟨⟨X.K, C⟩, io0, s0, n, false⟩ W (binaryOp op) (gO c m) := fun gd pins s σ H v1 v2 w1 w2 d1 d2 e ex Q I r1 r2 r h => by
  obtain ⟨f, fd, h1, h2, h3⟩ := F.ex
  unfold gO at h
  split at h
  · rename_i c1 ns1 ds1 c2 ns2 ds2
    split at h
    · rename_i hc
      obtain ⟨rfl, rfl⟩ := hc
      obtain ⟨a, dx, od, ea, J⟩ := inst_at r.drop.out1.fz I.hok
      obtain ⟨b, dy, od', eb, J'⟩ := inst_at r.out1.fz I.hok
      obtain ⟨mm, fr⟩ := I.fr
      subst ea eb
      obtain rfl : w1 = Value.ref a := r1
      obtain rfl : w2 = Value.ref b := r2
      exact PySem.W.binop_K fr I.ok.mod.kin J J'.type hf (by rw [← hx]; exact h1.at_) h1.fn (thn (call2 (C := C) (v1 := .ref a) (v2 := .ref b) gd hr h2 h3 hsl I rfl rfl r h) fun u s' z => cmpBack z)
    · exact h.elim
  · exact h.elim
/-- first == second by an own __eq__, the second of any of these kinds -/
@[simp] def gEqO (k : Nat) (m : Mir) : D → D → RF
  | .obj c ns ds, .obj c' ns' ds' => if c = k ∧ c' = k then m [.fz (.obj c ns ds), .fz (.obj c' ns' ds')] else .no
  | _, _ => .no
theorem ox_eq (F : Dm X.prog X.w X.K X.mg X.base C c "__eq__" k ps [] m) (hr : Room k X.A) (hsl : 2 = ps.length := by rfl) : OpX X ⟨⟨X.K, C⟩, io0, s0, n, false⟩ W (compareOp .Eq) (gEqO c m) := fun gd pins s σ H v1 v2 w1 w2 d1 d2 e ex Q I r1 r2 r h => by
  obtain ⟨f, fd, h1, h2, h3⟩ := F.ex
  unfold gEqO at h
  split at h
  · rename_i c1 ns1 ds1 c2 ns2 ds2
    split at h
    · rename_i hc
      obtain ⟨rfl, rfl⟩ := hc
      obtain ⟨a, dx, od, ea, J⟩ := inst_at r.drop.out1.fz I.hok
      obtain ⟨b, dy, od', eb, J'⟩ := inst_at r.out1.fz I.hok
      obtain ⟨mm, fr⟩ := I.fr
      subst ea eb
      obtain rfl : w1 = Value.ref a := r1
      obtain rfl : w2 = Value.ref b := r2
      exact PySem.W.cmp_K (op := .Eq) (tb := .ref (C c2)) hr.units0 fr I.ok.mod.kin J J'.type (by simp [PySem.W.notFirst]) h1.at_ h1.fn (thn (call2 (C := C) (v1 := .ref a) (v2 := .ref b) gd hr h2 h3 hsl I rfl rfl r h) fun u s' z => cmpBack z)
    · exact h.elim
  · exact h.elim
/-! ### one-place -/
def UnX (X : Cx) (G : Sg) (W : WX) (F : Value → Sem Value) (g : D → RF) : Prop := Good X G W → ∀ (pins : List (Addr × Obj)) (s : Shared) (σ : L2.St) (H : Hp) (v1 : V) (w1 : Value) (d1 : D) (e : Env) (ex : List (V × T)) (Q : VK),
  Inv X pins σ H s → RelV v1 w1 → Rel G H σ e ((v1, .fz d1) :: ex) → Wnt G W σ ex Q (retF [] e (g d1)) → wpAny (model X.prog X.w) X.A (F w1) (EP X pins σ Q) X.xe s
@[simp] def gB1 (g : D → Option T) (a : D) : RF := match g a with
  | some t => .ok t []
  | none => .no
@[simp] def gOr1 (g h : D → RF) (a : D) : RF := match g a with
  | .no => h a
  | r => r
@[simp] def gO1 (k : Nat) (m : Mir) : D → RF
  | .obj c ns ds => if c = k then m [.fz (.obj c ns ds)] else .no
  | _ => .no
theorem UnX.of {F : Value → Sem Value} {g : D → Option T} (h : UnD X G.Z F g) : UnX X G W F (gB1 g) := fun gd pins s σ H v1 w1 d1 e ex Q I r1 r k => by
  obtain ⟨rr, h1, h2⟩ := h
  refine h1 pins s σ H v1 w1 Q I r1 ?_
  unfold gB1 at k
  cases eg : g d1 with
  | none => rw [eg] at k; exact k.elim
  | some t =>
    rw [eg] at k
    exact h2 H _ v1 d1 t Q r.out1 eg fun H' v q => k H' v (r.back1 q)
theorem UnX.or {F : Value → Sem Value} {g h : D → RF} (k1 : UnX X G W F g) (k2 : UnX X G W F h) : UnX X G W F (gOr1 g h) := fun gd pins s σ H v1 w1 d1 e ex Q I r1 r k => by
  unfold gOr1 at k
  cases eg : g d1 with
  | no => rw [eg] at k; exact k2 gd pins s σ H v1 w1 d1 e ex Q I r1 r k
  | ok t us => rw [eg] at k; exact k1 gd pins s σ H v1 w1 d1 e ex Q I r1 r (by rw [eg]; exact k)
  | ex x us => rw [eg] at k; exact k1 gd pins s σ H v1 w1 d1 e ex Q I r1 r (by rw [eg]; exact k)
@[simp] def fUn2 (g : D → RF) (fa : M T) (env : Env) : R T := (fa env).bind fun a e1 => retF [] e1 (g (frz a))
theorem de_unX {op : UnaryOp} {g : D → RF} (ho : UnX X G W (unaryOp op) g) (ha : DE X G W a fa) : DE X G W (.UnaryOp op a pos) (fUn2 g fa) := fun gd => by
  refine ⟨fun pins s σ H Q I ⟨env, ex, r, h⟩ => ?_⟩
  have hA : rdE G W fa σ H (fun v1 H1 => ∃ t1 e1, Rel G H1 σ e1 ((v1, t1) :: ex) ∧ Wnt G W σ ex Q (retF [] e1 (g (frz t1)))) := rd_then r h fun H1 v1 t1 e1 r1 h1 => ⟨t1, e1, r1, h1⟩
  exact UnaryOp_ (thn ((ha gd).run pins s σ H _ I hA) fun v s1 ⟨v1, H1, I1, rv1, t1, e1, r1, h1⟩ => ho gd pins s1 σ H1 v1 v _ e1 ex Q I1 rv1 r1.freeze h1)
theorem ux_neg (F : Dm X.prog X.w X.K X.mg X.base C c "__neg__" k ps [] m) (hr : Room k X.A) (hsl : 1 = ps.length := by rfl) : UnX X ⟨⟨X.K, C⟩, io0, s0, n, false⟩ W (unaryOp .USub) (gO1 c m) := fun gd pins s σ H v1 w1 d1 e ex Q I r1 r h => by
  obtain ⟨f, fd, h1, h2, h3⟩ := F.ex
  unfold gO1 at h
  split at h
  · split at h
    · rename_i hc
      subst hc
      obtain ⟨a, dx, od, ea, J⟩ := inst_at r.out1.fz I.hok
      obtain ⟨mm, fr⟩ := I.fr
      subst ea
      obtain rfl : w1 = Value.ref a := r1
      exact PySem.W.ksp_neg fr I.ok.mod.kin J h1.at_ h1.fn (call1 (C := C) (v1 := .ref a) gd hr h2 h3 hsl I rfl r h)
    · exact h.elim
  · exact h.elim
theorem ux_inv (F : Dm X.prog X.w X.K X.mg X.base C c "__invert__" k ps [] m) (hr : Room k X.A) (hsl : 1 = ps.length := by rfl) : UnX X ⟨⟨X.K, C⟩, io0, s0, n, false⟩ W (unaryOp .Invert) (gO1 c m) := fun gd pins s σ H v1 w1 d1 e ex Q I r1 r h => by
  obtain ⟨f, fd, h1, h2, h3⟩ := F.ex
  unfold gO1 at h
  split at h
  · split at h
    · rename_i hc
      subst hc
      obtain ⟨a, dx, od, ea, J⟩ := inst_at r.out1.fz I.hok
      obtain ⟨mm, fr⟩ := I.fr
      subst ea
      obtain rfl : w1 = Value.ref a := r1
      exact PySem.W.ksp_inv fr I.ok.mod.kin J h1.at_ h1.fn (call1 (C := C) (v1 := .ref a) gd hr h2 h3 hsl I rfl r h)
    · exact h.elim
  · exact h.elim
end
end DL

set_option maxHeartbeats 4000000
namespace DL
open PySem PySem.Spec PyProof.Rows L2
section
variable {G : Sg} {W : WX} {σ : L2.St} {H : Hp}
theorem rdE_mono {f : M T} {Q Q' : VK} (h : rdE G W f σ H Q) (k : ∀ v H', Q v H' → Q' v H') : rdE G W f σ H Q' := by
  obtain ⟨env, ex, r, h⟩ := h
  refine ⟨env, ex, r, ?_⟩
  cases e : f env with
  | ok t e' => rw [e] at h; exact fun H' v r' => k v H' (h H' v r')
  | ex x e' => rw [e] at h; exact h
  | no => rw [e] at h; exact h
theorem rdA_mono {src : List (Option Nat)} {fs : M (List T)} {Q Q' : List V → Hp → Prop} (h : rdA G W src fs σ H Q) (k : ∀ v H', Q v H' → Q' v H') : rdA G W src fs σ H Q' := by
  obtain ⟨env, ex, r, h⟩ := h
  refine ⟨env, ex, r, ?_⟩
  cases e : fs env with
  | ok t e' => rw [e] at h; exact fun H' v h1 h2 h3 r' => k v H' (h H' v h1 h2 h3 r')
  | ex x e' => rw [e] at h; exact h
  | no => rw [e] at h; exact h
theorem rd_var {i : Nat} {Q : VK} (h : rdE G W (fVar i) σ H Q) : tVar i σ H Q := by
  obtain ⟨env, ex, r, h⟩ := h
  unfold fVar at h
  split at h
  · rename_i t e
    obtain ⟨v, ev, r1⟩ := r.take e
    have r2 : Rel G H σ (env.set i none) ((v, .fz (frz t)) :: (v, .fz (frz t)) :: ex) := r1.freeze.back (l := [(v, .fz (frz t)), (v, .fz (frz t))]) r1.freeze.out1.dup
    have r3 := (r2.perm (.swap ..)).put ev
    rw [List.set_set] at r3
    exact ⟨v, ev, h H v r3⟩
  · exact h.elim
theorem rd_const {v : V} {d : D} {Q : VK} (k : ∀ F, Rp G.Z F v d) (h : rdE G W (fC d) σ H Q) : Q v H := by
  obtain ⟨env, ex, r, h⟩ := h
  exact h H v (r.back1 (Roots.add r.2.2 k))
theorem rd_cons {src : List (Option Nat)} {fa : M T} {fs : M (List T)} {Q : List V → Hp → Prop} (h : rdA G W (none :: src) (fCons fa fs) σ H Q) : tCons (rdE G W fa) (rdA G W src fs) σ H Q := by
  obtain ⟨env, ex, r, h⟩ := h
  exact rd_then r h fun H' v t e r' h' => by
    refine ⟨e, (v, t) :: ex, r', aft_more (l := [(v, t)]) (aft_bind h') fun ts e2 p H2 vs hl hs hsrc r2 => ?_⟩
    refine p H2 (v :: vs) (by simpa using hl) (by simpa using hs) (fun k j ek => ?_) ?_
    · cases k with
      | zero => cases ek
      | succ k => exact hsrc k j ek
    · exact r2.perm List.perm_middle
theorem rd_lst {src : List (Option Nat)} {fs : M (List T)} {Q : VK} (h : rdE G W (fLst fs) σ H Q) : tLst (rdA G W src fs) σ H Q := by
  obtain ⟨env, ex, rel, h⟩ := h
  exact ⟨env, ex, rel, aft_more (l := []) (aft_bind h) fun ts e p H2 vs hl hs hsrc r2 => by
    split at p
    · rename_i hz
      exact ⟨by rw [hl]; exact hz, fun q nq => p _ _ (r2.back1 (Roots.newL hl r2.out nq))⟩
    · exact p.elim⟩
end
/-! ### an except suite: the slot of its name seen as the error's dict -/
def vwS (oi : Option Nat) (d : Option Addr) (σ : L2.St) : L2.St := match oi, d with
  | some i, some dd => σ.set i (some (.ref dd))
  | some i, none => σ.set i none
  | none, _ => σ
def cdS (G : Sg) (oi : Option Nat) (k : Nat) (a : Addr) (cls : Value) (σ : L2.St) : Prop := cls = .ref (G.Z.C k) ∧ ∀ i, oi = some i → σ[i]? = some (some (.ref a))
def rdV (G : Sg) (oi : Option Nat) (k : Nat) (a : Addr) (cls : Value) (d : Option Addr) (f : M T) : TE := fun σ H Q => cdS G oi k a cls σ ∧ rdE G W0 f (vwS oi d σ) H Q
def rdVA (G : Sg) (oi : Option Nat) (k : Nat) (a : Addr) (cls : Value) (d : Option Addr) (src : List (Option Nat)) (fs : M (List T)) : TA := fun σ H Q => cdS G oi k a cls σ ∧ rdA G W0 src fs (vwS oi d σ) H Q
def HE (X : Cx) (G : Sg) (oi : Option Nat) (k : Nat) (e : Expr) (f : M T) : Prop := ∀ (a : Addr) (oe : Obj) (cls : Value) (d : Option Addr) (pn : List (Addr × Obj)), G.Z.K = X.K → Zc cls d oe → (∃ vs, oe.data = .fields vs) → PE (X.suite a ((a, oe) :: pn)) e (rdV G oi k a cls d f)
def HA (X : Cx) (G : Sg) (oi : Option Nat) (k : Nat) (es : List Expr) (src : List (Option Nat)) (fs : M (List T)) : Prop := ∀ (a : Addr) (oe : Obj) (cls : Value) (d : Option Addr) (pn : List (Addr × Obj)), G.Z.K = X.K → Zc cls d oe → (∃ vs, oe.data = .fields vs) → PA (X.suite a ((a, oe) :: pn)) es (rdVA G oi k a cls d src fs)
section
variable {X : Cx} {G : Sg} {oi : Option Nat} {k : Nat} {e a1 b1 : Expr} {es : List Expr} {fa fb : M T} {fs : M (List T)} {src : List (Option Nat)} {pos p : Pos}
theorem vwS_ne {d : Option Addr} {σ : L2.St} {j : Nat} (h : oi ≠ some j) : (vwS oi d σ)[j]? = σ[j]? := by
  unfold vwS
  split
  · exact List.getElem?_set_ne (fun z => h (by rw [z]))
  · exact List.getElem?_set_ne (fun z => h (by rw [z]))
  · rfl
theorem he_var (j : Nat) {x : Str} (hN : X.N[j]? = some x := by rfl) (hv : Vis X.env.scope x := by first | exact Or.inl rfl | exact Or.inr (Or.inl rfl) | exact Or.inr (Or.inr rfl)) (hj : oi ≠ some j := by decide) (hd : (x == ("__debug__" : Str)) = false := by decide)
    (hcd : (x == ("__classdict__" : Str)) = false := by decide) : HE X G oi k (.Name x pos) (fVar j) := fun a oe cls d pn hK hz hf =>
  (pe_var (X := X.suite a ((a, oe) :: pn)) hN hv hd hcd).imp fun σ H Q ⟨_, h⟩ => by
    obtain ⟨v, e, q⟩ := rd_var h
    exact ⟨v, (vwS_ne hj).symm.trans e, q⟩
theorem he_int {i : Int} {j} : HE X G oi k (.Constant (.int i) j pos) (fC (.int i)) := fun a oe cls d pn hK hz hf => pe_int.imp fun σ H Q ⟨_, h⟩ => rd_const (d := .int i) (fun _ => rfl) h
theorem he_bl {i : Bool} {j} : HE X G oi k (.Constant (.bool i) j pos) (fC (.bl i)) := fun a oe cls d pn hK hz hf => pe_bl.imp fun σ H Q ⟨_, h⟩ => rd_const (d := .bl i) (fun _ => rfl) h
theorem he_str {i : Str} {j} : HE X G oi k (.Constant (.str i) j pos) (fC (.str i)) := fun a oe cls d pn hK hz hf => pe_str.imp fun σ H Q ⟨_, h⟩ => rd_const (d := .str i) (fun _ => rfl) h
theorem he_non {j} : HE X G oi k (.Constant .none j pos) (fC .non) := fun a oe cls d pn hK hz hf => pe_non.imp fun σ H Q ⟨_, h⟩ => rd_const (d := .non) (fun _ => rfl) h
theorem ha_nil : HA X G oi k [] [] fNil := fun a oe cls d pn hK hz hf => pa_nil.imp fun σ H Q ⟨_, env, ex, r, h⟩ => h H [] rfl rfl (fun k j e => by simp at e) r
theorem ha_cons (h1 : HE X G oi k e fa) (h2 : HA X G oi k es src fs) (hs : starEach (e :: es) X.env = (false, eval e X.env) :: starEach es X.env := by rfl) : HA X G oi k (e :: es) (none :: src) (fCons fa fs) := fun a oe cls d pn hK hz hf =>
  (pa_cons (h1 a oe cls d pn hK hz hf) (h2 a oe cls d pn hK hz hf) hs).imp fun σ H Q ⟨c, h⟩ => ⟨c, rdE_mono (rd_cons h) fun v H' q => ⟨c, q⟩⟩
theorem he_lst (h : HA X G oi k es src fs) : HE X G oi k (.List es pos) (fLst fs) := fun a oe cls d pn hK hz hf =>
  (pe_lst (h a oe cls d pn hK hz hf)).imp fun σ H Q ⟨c, h⟩ => ⟨c, rd_lst h⟩
theorem he_cmp {op : CmpOp} {g : D → D → Option T} (ho : ∀ a pn, OpD (X.suite a pn) G.Z (compareOp op) g) (ha : HE X G oi k a1 fa) (hb : HE X G oi k b1 fb) (h1 : behindInMarks op b1 = false := by first | exact nomark _ | rfl) : HE X G oi k (.Compare a1 [op] [b1] pos) (fBin g fa fb) := fun a oe cls d pn hK hz hf => by
  obtain ⟨r, h2, h3⟩ := ho a ((a, oe) :: pn)
  exact (pe_cmpR h2 (ha a oe cls d pn hK hz hf) (hb a oe cls d pn hK hz hf) h1).imp fun σ H Q ⟨c, h⟩ => ⟨c, rdE_mono (rd_bin h3 _ _ _ h) fun v H' q => ⟨c, q⟩⟩
/-- e.f of the error in slot i -/
@[simp] def getX (k : Nat) (f : Str) : T → Option T
  | .fz (.xd c ns ds) => if c = k then (getN f ns ds).map T.fz else none
  | _ => none
@[simp] def fXf (i k : Nat) (f : Str) (env : Env) : R T := match env[i]? with
  | some (some t) => ofO env (getX k f t)
  | _ => .no
theorem he_xf (i : Nat) {x n : Str} (T : XfC G.Z.K (G.Z.C k)) (hno : PySem.W.findIn G.Z.K (.ref (G.Z.C k)) n = some none) (hN : X.N[i]? = some x := by rfl) (hv : Vis X.env.scope x := by first | exact Or.inl rfl | exact Or.inr (Or.inl rfl) | exact Or.inr (Or.inr rfl))
    (hd : (x == ("__debug__" : Str)) = false := by decide) (hcd : (x == ("__classdict__" : Str)) = false := by decide) (hb : attributeBase (.Name x p) n X.env (eval (.Name x p) X.env) = eval (.Name x p) X.env := by rfl) : HE X G (some i) k (.Attribute (.Name x p) n pos) (fXf i k n) := fun a oe cls d pn hK hz hf => by
  refine (pe_xf (C := G.Z.C k) (hK ▸ T) (hK ▸ hno) hz hf (pe_var (X := X.suite a ((a, oe) :: pn)) hN hv hd hcd) hb).imp fun σ H Q ⟨⟨c1, c2⟩, env, ex, r, h⟩ => ?_
  have hi := c2 i rfl
  refine ⟨.ref a, hi, rfl, c1, ?_⟩
  unfold fXf at h
  split at h
  · rename_i t et
    cases e1 : getX k n t with
    | none => rw [e1] at h; exact h.elim
    | some u =>
      rw [e1] at h
      unfold getX at e1
      split at e1
      · rename_i c ns ds
        split at e1
        · obtain ⟨dv, e2, rfl⟩ := Option.map_eq_some_iff.mp e1
          obtain ⟨v, ev, r1⟩ := r.take et
          have ro := r1.out1
          obtain ⟨F, _, s, ⟨f1, f2, ⟨⟨ad, vs, ea, eF, el, rp⟩, e0⟩, o2, rfl⟩, nn, qq⟩ := ro
          subst e0
          obtain ⟨w, ew, rw'⟩ := getN_rel el rp e2
          subst ea
          cases d with
          | none =>
            have ev : (σ.set i none)[i]? = some (some (.ref ad)) := ev
            rw [List.getElem?_set_self (lt_of_get hi)] at ev
            cases ev
          | some dd =>
            have ev : (σ.set i (some (.ref dd)))[i]? = some (some (.ref ad)) := ev
            rw [List.getElem?_set_self (lt_of_get hi)] at ev
            cases ev
            refine ⟨ad, ns.zip vs, w, rfl, s _ _ eF, by rw [lookup_zip]; exact ew, h H w ?_⟩
            have r2 : Rel G H (vwS (some i) (some ad) σ) (env.set i none) ((w, .fz dv) :: (.ref ad, .fz (.xd c ns ds)) :: ex) := r1.back (l := [(w, .fz dv), (.ref ad, .fz (.xd c ns ds))]) ⟨F, f2, s, ⟨[], f2, ⟨rw', rfl⟩, ⟨[], f2, ⟨⟨ad, vs, rfl, eF, el, rp⟩, rfl⟩, o2, rfl⟩, rfl⟩, nn, qq⟩
            have r3 := (r2.perm (.swap ..)).put (i := i) (by show (σ.set i (some (.ref ad)))[i]? = _; rw [List.getElem?_set_self (lt_of_get hi)])
            rw [List.set_set, set_self et] at r3
            exact r3
        · cases e1
      · cases e1
  · exact h.elim
end
end DL

set_option maxHeartbeats 4000000
namespace DL
open PySem PySem.Spec PyProof.Rows L2
/-! ### try -/
@[simp] def inS (x : Ex) (e : Env) : Option Nat → Env
  | some i => e.set i (x.d.map fun p => .fz (.xd x.c p.1 p.2))
  | none => e
@[simp] def outS (e : Env) : Option Nat → Env
  | some i => e.set i none
  | none => e
@[simp] def rtS (oi : Option Nat) : R T → RS
  | .ok t e' => .rt t (outS e' oi)
  | _ => .no
@[simp] def hdl : List (Nat × Option Nat × M T) → Ex → Env → RS
  | [], x, e => .ex x e
  | (k, oi, h) :: r, x, e => if x.c = k then rtS oi (h (inS x e oi)) else hdl r x e
@[simp] def fTry (es : List Nat) (fb : MS) (hl : List (Nat × Option Nat × M T)) (env : Env) : RS := match fb env with
  | .ex x e => if es.contains x.c = true then hdl hl x e else .no
  | r => r
/-- which errors a clause takes -/
def Exm (K : PySem.W.Frag) (C : Nat → Addr) (es : List Nat) (k : Nat) : Prop := ∀ c ∈ es, PySem.W.exmOne K (.ref (C c)) (.ref (C k)) = some (decide (c = k))
inductive HM (X : Cx) (G : Sg) (es : List Nat) : List ExceptHandler → List (Nat × Option Nat × M T) → Prop
  | nil : HM X G es [] []
  | cons {x : Str} {k : Nat} {f : M T} {e : Expr} {np pos' p' : Pos} {hds : List ExceptHandler} {l : List (Nat × Option Nat × M T)} (hx : Exm G.Z.K G.Z.C es k) (hm : X.mg x = some (.ref (G.Z.C k))) (he : HE X G none k e f) (r : HM X G es hds l) (hg : Gl X x := by rfl) (hd : (x == ("__debug__" : Str)) = false := by decide) :
      HM X G es (.ExceptHandler (some (.Name x np)) none [.Return (some e) p'] pos' :: hds) ((k, none, f) :: l)
  | consA {x n : Str} (i : Nat) {k : Nat} {f : M T} {e : Expr} {np pos' p' : Pos} {hds : List ExceptHandler} {l : List (Nat × Option Nat × M T)} (hx : Exm G.Z.K G.Z.C es k) (hm : X.mg x = some (.ref (G.Z.C k))) (he : HE X G (some i) k e f) (r : HM X G es hds l)
      (hi : X.N[i]? = some n := by rfl) (hln : X.env.kindOf n = some .local := by rfl) (hn : Nat.blt i G.n = true := by rfl) (ni : G.io.contains i = false := by rfl) (hg : Gl X x := by rfl) (hd : (x == ("__debug__" : Str)) = false := by decide) :
      HM X G es (.ExceptHandler (some (.Name x np)) (some n) [.Return (some e) p'] pos' :: hds) ((k, some i, f) :: l)
def clOf (G : Sg) : List (Nat × Option Nat × M T) → List Cl
  | [] => []
  | (k, oi, f) :: r => (.ref (G.Z.C k), oi, fun a cls d D σ H => rdV G oi k a cls d f σ H fun v H' => D.rt v H') :: clOf G r
section
variable {X : Cx} {G : Sg} {W : WX} {es : List Nat} {pos : Pos} {body : List Stmt} {fb : MS}
theorem hm_ok (hK : G.Z.K = X.K) {hds : List ExceptHandler} {l : List (Nat × Option Nat × M T)} (h : HM X G es hds l) : HdsM X hds (clOf G l) := by
  induction h with
  | nil => exact .nil
  | cons hx hm he r hg hd ih => exact .cons ⟨hg, hd, .inl hm⟩ (fun a oe cls d pn hz hf => pss_one (ps_ret (he a oe cls d pn hK hz hf))) ih
  | consA i hx hm he r hi hln hn ni hg hd ih => exact .consA hi hln ⟨hg, hd, .inl hm⟩ (fun a oe cls d pn hz hf => pss_one (ps_ret (he a oe cls d pn hK hz hf))) ih
theorem wM_ok (hK : G.Z.K = X.K) {hds : List ExceptHandler} {l : List (Nat × Option Nat × M T)} (h : HM X G es hds l) {D : Ends} {ex : List (V × T)} {x : Ex} {e : Env} (hes : x.c ∈ es) (q : AftS G W D ex (hdl l x e)) (σ : L2.St) : XOk G (wM X.K W D (clOf G l)) σ ex e x := by
  induction h with
  | nil => exact q σ
  | @cons xx k f e0 np pos' p' hds l hx hm he r hg hd ih =>
    have em := hx x.c hes
    unfold hdl at q
    by_cases hc : x.c = k
    · rw [if_pos hc] at q
      have go : ∀ (H' : Hp) (d : Option Addr) (l2 : List (V × T)), Rel G H' σ e (l2 ++ ex) → wM X.K W D (clOf G ((k, none, f) :: l)) (.ref (G.Z.C x.c)) d σ H' := by
        intro H' d l2 r1
        refine ⟨true, by rw [← hK, em, decide_eq_true hc], fun _ a na => ⟨⟨by rw [hc], fun i hi => by cases hi⟩, e, ex, ?_, ?_⟩, fun z => by cases z⟩
        · exact r1.drops
        · have q : AftS G W D ex (rtS none (f e)) := q
          cases ef : f e with
          | ok t e' => rw [ef] at q; exact fun H2 v r2 => q _ H2 v r2
          | ex _ _ => rw [ef] at q; exact q.elim
          | no => rw [ef] at q; exact q.elim
      unfold XOk
      cases ed : x.d with
      | none => exact fun H' r1 => go H' none [] r1
      | some p => exact fun H' dx r1 => go H' (some dx) [_] r1
    · rw [if_neg hc] at q
      have ih' := ih q
      have go : ∀ (H' : Hp) (d : Option Addr), wM X.K W D (clOf G l) (.ref (G.Z.C x.c)) d σ H' → wM X.K W D (clOf G ((k, none, f) :: l)) (.ref (G.Z.C x.c)) d σ H' := fun H' d z =>
        ⟨false, (by rw [← hK, em, decide_eq_false hc]), (fun z => nomatch z), (fun _ => z)⟩
      unfold XOk at ih' ⊢
      cases ed : x.d with
      | none => rw [ed] at ih'; exact fun H' r1 => go H' none (ih' H' r1)
      | some p => rw [ed] at ih'; exact fun H' dx r1 => go H' (some dx) (ih' H' dx r1)
  | @consA xx n i k f e0 np pos' p' hds l hx hm he r hi hln hn ni hg hd ih =>
    have em := hx x.c hes
    unfold hdl at q
    by_cases hc : x.c = k
    · rw [if_pos hc] at q
      have q : AftS G W D ex (rtS (some i) (f (e.set i (x.d.map fun p => .fz (.xd x.c p.1 p.2))))) := q
      have fin : ∀ (σ2 : L2.St), Aft (XOk G W0 σ2 ex) (fun t e' => ∀ H2 v, Rel G H2 σ2 e' ((v, t) :: ex) → D.rt v H2) (f (e.set i (x.d.map fun p => .fz (.xd x.c p.1 p.2)))) := by
        intro σ2
        cases ef : f (e.set i (x.d.map fun p => .fz (.xd x.c p.1 p.2))) with
        | ok t e' => rw [ef] at q; exact fun H2 v r2 => q σ2 H2 v r2.forget
        | ex _ _ => rw [ef] at q; exact q.elim
        | no => rw [ef] at q; exact q.elim
      have hlt : ∀ {H' : Hp} {l2 : List (V × T)}, Rel G H' σ e l2 → i < σ.length := fun {H' l2} r1 => by rw [r1.1.1, r1.2.1.1]; exact lt_b hn
      have ev : ∀ {a : Addr}, i < σ.length → (σ.set i (some (V.ref a)))[i]? = some (some (.ref a)) := fun {a} hl => List.getElem?_set_self hl
      unfold XOk
      cases ed : x.d with
      | none =>
        rw [ed] at fin
        refine fun H' r1 => ⟨true, by rw [← hK, em, decide_eq_true hc], fun _ a na => ⟨⟨by rw [hc], fun j hj => ?_⟩, _, ex, ?_, fin _⟩, fun z => by cases z⟩
        · cases hj; exact ev (hlt r1)
        · show Rel G H' ((σ.set i (some (.ref a))).set i none) (e.set i none) ex
          rw [List.set_set]
          exact r1.wipe1 none (io_b ni)
      | some p =>
        rw [ed] at fin
        refine fun H' dx r1 => ⟨true, by rw [← hK, em, decide_eq_true hc], fun _ a na => ⟨⟨by rw [hc], fun j hj => ?_⟩, _, ex, ?_, fin _⟩, fun z => by cases z⟩
        · cases hj; exact ev (hlt r1)
        · show Rel G H' ((σ.set i (some (.ref a))).set i (some (.ref dx))) (e.set i (some (.fz (.xd x.c p.1 p.2)))) ex
          rw [List.set_set]
          exact r1.store (lt_b hn) (io_b ni)
    · rw [if_neg hc] at q
      have ih' := ih q
      have go : ∀ (H' : Hp) (d : Option Addr), wM X.K W D (clOf G l) (.ref (G.Z.C x.c)) d σ H' → wM X.K W D (clOf G ((k, some i, f) :: l)) (.ref (G.Z.C x.c)) d σ H' := fun H' d z =>
        ⟨false, (by rw [← hK, em, decide_eq_false hc]), (fun z => nomatch z), (fun _ => z)⟩
      unfold XOk at ih' ⊢
      cases ed : x.d with
      | none => rw [ed] at ih'; exact fun H' r1 => go H' none (ih' H' r1)
      | some p => rw [ed] at ih'; exact fun H' dx r1 => go H' (some dx) (ih' H' dx r1)
theorem ds_try {h₀ : ExceptHandler} {hds : List ExceptHandler} {l : List (Nat × Option Nat × M T)} (hb : ∀ (W' : WX) (pn : List (Addr × Obj)) (xe : Value → Shared → Prop), DSs (X.tr pn xe) G W' body fb) (hh : HM X G es (h₀ :: hds) l)
    (hs : X.stack = X.env :: X.outer := by rfl) (hf : X.env.frame = some X.env.locals := by rfl) : DS X G W (.Try body (h₀ :: hds) [] [] pos) (fTry es fb l) := fun gd =>
  (ps_tryM hs hf gd.nd gd.tk (fun W' pn xe tk po => hb W' pn xe ⟨gd.hK, tk, gd.calm, gd.nd, po⟩) (hm_ok gd.hK hh)).imp fun D σ H ⟨env, ex, r, h⟩ => by
    refine ⟨env, ex, r, ?_⟩
    unfold fTry at h
    cases e1 : fb env with
    | ex x e =>
      rw [e1] at h
      dsimp only at h
      split at h
      · rename_i hc
        exact wM_ok gd.hK hh (List.contains_iff_mem.mp hc) h
      · exact h.elim
    | nx e => rw [e1] at h; exact h
    | rt t e => rw [e1] at h; exact h
    | bk e => rw [e1] at h; exact h
    | ct e => rw [e1] at h; exact h
    | no => rw [e1] at h; exact h
theorem ds_dead {st : Stmt} : DS X G W st (fun _ => .no) := fun gd => ⟨fun pins s σ H D I ⟨env, ex, r, h⟩ => h.elim⟩
theorem de_dead {e : Expr} : DE X G W e (fun _ => .no) := fun gd => ⟨fun pins s σ H Q I ⟨env, ex, r, h⟩ => h.elim⟩
end
end DL

set_option maxHeartbeats 4000000
namespace DL
open PySem PySem.Spec PyProof.Rows L2
section
variable {X : Cx} {Z : Wd}
/-! ### a smaller function -/
theorem OpD.le {f : Value → Value → Sem Value} {g k : D → D → Option T} (h : OpD X Z f g) (hk : ∀ a b t, k a b = some t → g a b = some t) : OpD X Z f k := by
  obtain ⟨r, a1, b1⟩ := h
  exact ⟨r, a1, fun H rs v1 v2 d1 d2 t Q ro e q => b1 H rs v1 v2 d1 d2 t Q ro (hk _ _ _ e) q⟩
/-! ### list + list -/
def rCatS (K : PySem.W.Frag) : R2 := fun x y H Q => ∃ l b xs zs, x = .ref l ∧ y = .ref b ∧ SqL K H l xs ∧ SqL K H b zs ∧ xs.length + zs.length ≤ sizeLine ∧ ∀ p, H p = none → Q (.ref p) (upd H p (.lst (xs ++ zs)))
theorem op_catS : OpR X (binaryOp .Add) (rCatS X.K) := by
  intro pins s σ H x y v u Q I rx ry h
  obtain ⟨l, b, xs, zs, rfl, rfl, hH, hB, hz, q⟩ := h
  cases rx
  cases ry
  obtain ⟨its, r, ⟨⟨cls, dd, data, sl⟩, n, ho, hc, _, hd⟩, hl⟩ := I.list hH
  obtain ⟨its2, r2, ⟨⟨cls2, dd2, data2, sl2⟩, n2, ho2, hc2, _, hd2⟩, hl2⟩ := I.list hB
  simp only at hc hd hc2 hd2
  subst hc hd hc2 hd2
  have e1 := r.length
  have e2 := r2.length
  refine concat_meets ⟨_, ho, rfl⟩ ⟨_, ho2, rfl⟩ noFill_list_add seq_list_add PySem.F.slot_list_add PySem.F.entry_list_add (PySem.F.args_list_add_2 _ _) (list_addW l b its.toArray its2.toArray n n2 dd dd2 sl sl2 (by simp; omega)) ⟨ho, ho2, ?_⟩
  have ea : its.toArray ++ its2.toArray = (its ++ its2).toArray := by simp
  rw [ea]
  exact ⟨.ref _, _, I.lnew (t' := s.toks) (r.append r2) (by rw [List.length_append]; omega), rfl, q _ I.fresh⟩
theorem Roots.openL2 {H : Hp} {v1 v2 : V} {a b : List D} {rs : List (V × T)} (ro : Roots Z H ((v2, .fz (.lst b)) :: (v1, .fz (.lst a)) :: rs)) : ∃ p q xs ys, v1 = .ref p ∧ v2 = .ref q ∧ SqL Z.K H p xs ∧ SqL Z.K H q ys ∧ xs.length = a.length ∧ ys.length = b.length ∧ Roots Z H ((xs ++ ys).zip ((a ++ b).map T.fz) ++ rs) := by
  obtain ⟨q, ys, e2, s2, l2, ro2⟩ := ro.openL
  have ro3 : Roots Z H ((v1, .fz (.lst a)) :: (ys.zip (b.map T.fz) ++ rs)) := ro2.perm List.perm_middle
  obtain ⟨p, xs, e1, s1, l1, ro4⟩ := ro3.openL
  refine ⟨p, q, xs, ys, e1, e2, s1, s2, l1, l2, ?_⟩
  rw [List.map_append, List.zip_append (by simpa using l1), List.append_assoc]
  exact ro4
theorem Roots.openT2 {H : Hp} {v1 v2 : V} {a b : List D} {rs : List (V × T)} (ro : Roots Z H ((v2, .fz (.tup b)) :: (v1, .fz (.tup a)) :: rs)) : ∃ p q xs ys, v1 = .ref p ∧ v2 = .ref q ∧ SqT Z.K H p xs ∧ SqT Z.K H q ys ∧ xs.length = a.length ∧ ys.length = b.length ∧ Roots Z H ((xs ++ ys).zip ((a ++ b).map T.fz) ++ rs) := by
  obtain ⟨q, ys, e2, s2, l2, ro2⟩ := ro.openT
  have ro3 : Roots Z H ((v1, .fz (.tup a)) :: (ys.zip (b.map T.fz) ++ rs)) := ro2.perm List.perm_middle
  obtain ⟨p, xs, e1, s1, l1, ro4⟩ := ro3.openT
  refine ⟨p, q, xs, ys, e1, e2, s1, s2, l1, l2, ?_⟩
  rw [List.map_append, List.zip_append (by simpa using l1), List.append_assoc]
  exact ro4
@[simp] def gCatL : D → D → Option T
  | .lst a, .lst b => if a.length + b.length ≤ sizeLine then some (.lst ((a ++ b).map T.fz)) else none
  | _, _ => none
@[simp] def gCatT : D → D → Option T
  | .tup a, .tup b => if a.length + b.length ≤ sizeLine then some (.fz (.tup (a ++ b))) else none
  | _, _ => none
@[simp] def gCatS : D → D → Option T
  | .str a, .str b => if a.length + b.length ≤ sizeLine then some (.fz (.str (a ++ b))) else none
  | _, _ => none
theorem od_catL (hK : Z.K = X.K) : OpD X Z (binaryOp .Add) gCatL := by
  refine ⟨_, op_catS, fun H rs v1 v2 d1 d2 t Q ro e k => ?_⟩
  rw [← hK]
  unfold gCatL at e
  split at e
  · split at e
    · rename_i a b hl
      cases e
      obtain ⟨p, q, xs, ys, e1, e2, s1, s2, l1, l2, ro2⟩ := ro.openL2
      exact ⟨p, q, xs, ys, e1, e2, s1, s2, by rw [l1, l2]; exact hl, fun z nz => k _ _ (Roots.newL (by simp [l1, l2]) ro2 nz)⟩
    · cases e
  · cases e
theorem od_catT (hK : Z.K = X.K) : OpD X Z (binaryOp .Add) gCatT := by
  refine ⟨_, op_catA, fun H rs v1 v2 d1 d2 t Q ro e k => ?_⟩
  rw [← hK]
  unfold gCatT at e
  split at e
  · split at e
    · rename_i a b hl
      cases e
      obtain ⟨p, q, xs, ys, e1, e2, s1, s2, l1, l2, ro2⟩ := ro.openT2
      refine ⟨p, q, xs, ys, e1, e2, s1, s2, by rw [l1, l2]; exact hl, fun hx => ?_, fun hx hy => ?_, fun hx hy z nz => k _ _ (Roots.newT (by simp [l1, l2]) ro2 nz)⟩
      · have : a = [] := List.eq_nil_of_length_eq_zero (by rw [← l1, hx]; rfl)
        subst this
        rw [← e2]
        exact k H _ (ro.perm (.swap ..)).drop
      · have : b = [] := List.eq_nil_of_length_eq_zero (by rw [← l2, hy]; rfl)
        subst this
        rw [← e1]
        rw [List.append_nil] at k
        exact k H _ ro.drop
    · cases e
  · cases e
theorem od_catS : OpD X Z (binaryOp .Add) gCatS := by
  refine ⟨_, op_add_str, fun H rs v1 v2 d1 d2 t Q ro e k => ?_⟩
  obtain ⟨p1, p2⟩ := ro.pair
  unfold gCatS at e
  split at e
  · split at e
    · rename_i a b hl
      cases e
      exact ⟨a, b, p1, p2, hl, k H _ (Roots.add ro.drop2 fun _ => rfl)⟩
    · cases e
  · cases e
@[simp] def gAdd2 : D → D → Option T
  | .int i, .int j => some (.fz (.int (i + j)))
  | .lst a, .lst b => if a.length + b.length ≤ sizeLine then some (.lst ((a ++ b).map T.fz)) else none
  | .tup a, .tup b => if a.length + b.length ≤ sizeLine then some (.fz (.tup (a ++ b))) else none
  | .str a, .str b => if a.length + b.length ≤ sizeLine then some (.fz (.str (a ++ b))) else none
  | _, _ => none
theorem od_add2 (hK : Z.K = X.K) : OpD X Z (binaryOp .Add) gAdd2 := ((od_addI.or (od_catL hK)).or ((od_catT hK).or od_catS)).le fun a b t h => by
  unfold gAdd2 at h
  split at h <;> first | (cases h; done) | (simp only [gI0, gCatL, gCatT, gCatS, Option.or, h]; try (split <;> simp_all)) | skip
/-! ### == -/
@[simp] def gEq2 (neg : Bool) (a b : D) : Option T := match eqS a b with
  | some k => some (.fz (.bl (if neg then !k else k)))
  | none => gEqD neg a b
theorem od_eq2 {k : Nat} (hr : Room k X.A) (hK : Z.K = X.K) : OpD X Z (compareOp .Eq) (gEq2 false) := (od_eqS.or (od_eqD hr hK)).le fun a b t h => by
  unfold gEq2 at h
  cases e : eqS a b with
  | some k => rw [e] at h; simp only [gEqS, e, Option.map_some, Option.or]; exact h
  | none => rw [e] at h; simp only [gEqS, e, Option.map_none, Option.or]; exact h
theorem od_ne2 {k : Nat} (hr : Room k X.A) (hK : Z.K = X.K) : OpD X Z (compareOp .NotEq) (gEq2 true) := (od_neS.or (od_neD hr hK)).le fun a b t h => by
  unfold gEq2 at h
  cases e : eqS a b with
  | some k => rw [e] at h; simp only [gEqS, e, Option.map_some, Option.or]; exact h
  | none => rw [e] at h; simp only [gEqS, e, Option.map_none, Option.or]; exact h
/-! ### in -/
@[simp] def flatD : D → Bool
  | .non => true
  | .bl _ => true
  | .int _ => true
  | .str _ => true
  | _ => false
@[simp] def inD (x : D) (xs : List D) : Bool := xs.any fun y => eqD y x
@[simp] def gIn (neg : Bool) : D → D → Option T
  | x, .lst xs => if flatD x = true ∧ xs.all flatD = true then some (.fz (.bl (if neg then !inD x xs else inD x xs))) else none
  | x, .tup xs => if flatD x = true ∧ xs.all flatD = true then some (.fz (.bl (if neg then !inD x xs else inD x xs))) else none
  | _, _ => none
theorem flat_rp {H : Hp} {v : V} {d : D} (r : Rp Z H v d) (h : flatD d = true) : flatV v = true := by
  cases d <;> first | (cases r; rfl) | (simp at h)
theorem eqV_rp {H : Hp} {v w : V} {d e : D} (r : Rp Z H v d) (r' : Rp Z H w e) (h : flatD d = true) (h' : flatD e = true) : L2.eqV v w = eqD d e := by
  cases d <;> first | (simp at h; done) | (cases e <;> first | (simp at h'; done) | (cases r; cases r'; simp [L2.eqV, eqD] <;> first | rfl | (simp [Bool.beq_eq_decide_eq]) | skip))
theorem flats_rp {H : Hp} : ∀ {vs : List V} {ds : List D}, Rps Z H vs ds → ds.all flatD = true → vs.all flatV = true
  | [], [], _, _ => rfl
  | v :: vs, d :: ds, r, h => by
    rw [List.all_cons, Bool.and_eq_true] at h ⊢
    exact ⟨flat_rp r.1 h.1, flats_rp r.2 h.2⟩
  | [], _ :: _, r, _ => r.elim
  | _ :: _, [], r, _ => r.elim
theorem inV_rp {H : Hp} {x : V} {d : D} (r : Rp Z H x d) (hd : flatD d = true) : ∀ {vs : List V} {ds : List D}, Rps Z H vs ds → ds.all flatD = true → L2.inV x vs = inD d ds
  | [], [], _, _ => rfl
  | v :: vs, e :: ds, rs, h => by
    rw [List.all_cons, Bool.and_eq_true] at h
    have ih := inV_rp r hd rs.2 h.2
    simp only [L2.inV, inD, List.any_cons] at ih ⊢
    rw [ih, eqV_rp rs.1 r h.1 hd]
  | [], _ :: _, rs, _ => rs.elim
  | _ :: _, [], rs, _ => rs.elim
theorem gIn_ok {neg : Bool} {H : Hp} {rs : List (V × T)} {v1 v2 : V} {d1 d2 : D} {t : T} {Q : VK} (ro : Roots Z H ((v2, .fz d2) :: (v1, .fz d1) :: rs)) (e : gIn neg d1 d2 = some t) (k : ∀ H' v, Roots Z H' ((v, t) :: rs) → Q v H') : rIn Z.K neg v1 v2 H Q := by
  obtain ⟨p1, p2⟩ := ro.pair
  unfold gIn at e
  split at e
  · split at e
    · rename_i xs hc
      cases e
      obtain ⟨a, vs, ea, q, rp⟩ := p2
      refine ⟨a, vs, ea, .inl q, flat_rp p1 hc.1, flats_rp rp hc.2, ?_⟩
      rw [inV_rp p1 hc.1 rp hc.2]
      exact k H _ (Roots.add ro.drop2 fun _ => rfl)
    · cases e
  · split at e
    · rename_i xs hc
      cases e
      obtain ⟨a, vs, ea, q, rp⟩ := p2
      refine ⟨a, vs, ea, .inr q, flat_rp p1 hc.1, flats_rp rp hc.2, ?_⟩
      rw [inV_rp p1 hc.1 rp hc.2]
      exact k H _ (Roots.add ro.drop2 fun _ => rfl)
    · cases e
  · cases e
theorem od_in (hK : Z.K = X.K) : OpD X Z (compareOp .In) (gIn false) := ⟨_, op_in_seq, fun H rs v1 v2 d1 d2 t Q ro e k => by rw [← hK]; exact gIn_ok ro e k⟩
theorem od_notin (hK : Z.K = X.K) : OpD X Z (compareOp .NotIn) (gIn true) := ⟨_, op_notIn_seq, fun H rs v1 v2 d1 d2 t Q ro e k => by rw [← hK]; exact gIn_ok ro e k⟩
/-! ### is None -/
@[simp] def gIsN (neg : Bool) : D → D → Option T
  | .non, .non => some (.fz (.bl !neg))
  | .ty _, .non => none
  | .xd .., .non => none
  | .val _, .non => none
  | .know _, .non => none
  | .raw _, .non => none
  | .bl i, .bl j => some (.fz (.bl (if neg then !decide (i = j) else decide (i = j))))
  | _, .non => some (.fz (.bl neg))
  | _, _ => none
theorem gIsN_ok {H : Hp} {v : V} {d : D} {neg : Bool} {t : T} (r : Rp Z H v d) (h : gIsN neg d .non = some t) : t = .fz (.bl (if neg then !decide (v = .non) else decide (v = .non))) := by
  cases d with
  | non => cases r; cases neg <;> simp at h <;> simp [← h]
  | ty => simp at h
  | xd => simp at h
  | val => simp at h
  | know => simp at h
  | raw => simp at h
  | bl => cases r; cases neg <;> simp at h <;> simp [← h]
  | int => cases r; cases neg <;> simp at h <;> simp [← h]
  | str => cases r; cases neg <;> simp at h <;> simp [← h]
  | cls => cases r; cases neg <;> simp at h <;> simp [← h]
  | lst => obtain ⟨a, vs, rfl, _⟩ := r; cases neg <;> simp at h <;> simp [← h]
  | tup => obtain ⟨a, vs, rfl, _⟩ := r; cases neg <;> simp at h <;> simp [← h]
  | obj => obtain ⟨a, dx, vs, rfl, _⟩ := r; cases neg <;> simp at h <;> simp [← h]
  | dic => obtain ⟨a, vs, rfl, _⟩ := r; cases neg <;> simp at h <;> simp [← h]
theorem od_isN1 : OpD X Z (compareOp .Is) (fun a b => match b with | .non => gIsN false a .non | _ => none) := by
  refine ⟨_, op_isN, fun H rs v1 v2 d1 d2 t Q ro e k => ?_⟩
  obtain ⟨p1, p2⟩ := ro.pair
  dsimp only at e
  split at e
  · have := gIsN_ok p1 e
    subst this
    exact ⟨p2, k H _ (Roots.add ro.drop2 fun _ => rfl)⟩
  · cases e
theorem od_isN2 : OpD X Z (compareOp .IsNot) (fun a b => match b with | .non => gIsN true a .non | _ => none) := by
  refine ⟨_, op_notN, fun H rs v1 v2 d1 d2 t Q ro e k => ?_⟩
  obtain ⟨p1, p2⟩ := ro.pair
  dsimp only at e
  split at e
  · have := gIsN_ok p1 e
    subst this
    exact ⟨p2, k H _ (Roots.add ro.drop2 fun _ => rfl)⟩
  · cases e
theorem od_is2 : OpD X Z (compareOp .Is) (gIsN false) := (od_isN1.or od_isB).le fun a b t h => by
  cases b <;> cases a <;> simp at h <;> simp [h]
theorem od_isnot2 : OpD X Z (compareOp .IsNot) (gIsN true) := (od_isN2.or od_notB).le fun a b t h => by
  cases b <;> cases a <;> simp at h <;> simp [h]
end
end DL

set_option maxHeartbeats 1000000
namespace DL
open PySem L2
/-! ### the functions that many laws share: a pool of draws, a cell of the script -/
def b__law_pool : MS := fRet (fLst (fCons (fVar 0) (fCons (fC (.int 0)) (fCons (fBin gGe (fVar 0) (fBin gPow (fC (.int 10)) (fC (.int 18)))) (fNil)))))
def m__law_pool : Mir := mirOf 1 [] b__law_pool
def b__law_take : MS := fSeq (fAsg (fBin gAdd2 (fPeek 0 (fC (.int 1))) (fC (.int 1))) (sPut 0 (fC (.int 1)))) (fSeq (fIfS (fTest (fPeek 0 (fC (.int 2)))) (fSeq (fSet 2 (fBin gMod (fCB (g1 gInt) (fCons (fPeek 0 (fC (.int 0))) (fNil))) (fVar 1))) (fSeq (fAsg (fBin gFdiv (fCB (g1 gInt) (fCons (fPeek 0 (fC (.int 0))) (fNil))) (fVar 1)) (sPut 0 (fC (.int 0)))) (fRet (fVar 2)))) (fNext)) (fSeq (fSet 3 (fBin gMod (fCB (g1 gInt) (fCons (fBin gAdd2 (fBin gAdd2 (fBin gMul (fPeek 0 (fC (.int 0))) (fC (.int 7919))) (fBin gMul (fPeek 0 (fC (.int 1))) (fC (.int 104729)))) (fC (.int 13))) (fNil))) (fC (.int 2147483647)))) (fRet (fBin gMod (fBin gFdiv (fCB (g1 gInt) (fCons (fBin gMod (fBin gPow (fVar 3) (fC (.int 5))) (fC (.int 2147483647))) (fNil))) (fC (.int 17))) (fVar 1)))))
def m__law_take : Mir := mirOf 4 [0] b__law_take
def b__law_cell : MS := fSeq (fIfS (fTestB (fBin gLt (fVar 1) (fCB (g1 gLen) (fCons (fVar 0) (fNil))))) (fRet (fPeek 0 (fVar 1))) (fNext)) (fRet (fC (.int 0)))
def m__law_cell : Mir := mirOf 2 [] b__law_cell
/-- a pool: the number, how often it was drawn from, whether by digits -/
abbrev poolT (x n : Int) (fl : Bool) : T := .lst [.fz (.int x), .fz (.int n), .fz (.bl fl)]
theorem pool_eq (c : Int) : m__law_pool [.fz (.int c)] = .ok (poolT c 0 (decide (10 ^ 18 ≤ c))) [] := rfl
def takeR (x n : Int) (fl : Bool) (l : Int) : Int := if fl then x.fmod l else ((((x * 7919 + n * 104729 + 13).fmod 2147483647) ^ 5).fmod 2147483647 |>.fdiv 17).fmod l
def takeX (x : Int) (fl : Bool) (l : Int) : Int := if fl then x.fdiv l else x
theorem sz_le {x : Int} {k : Nat} (h : x.natAbs < 2 ^ k) : sz x ≤ k := by
  unfold sz
  by_cases h0 : x.natAbs = 0
  · rw [h0]; exact Nat.zero_le _
  · exact Nat.le_of_lt ((Nat.log2_lt h0).mpr h)
theorem lt_sz (x : Int) : x.natAbs < 2 ^ (sz x + 1) := by
  unfold sz
  exact Nat.lt_log2_self
theorem mulOk_of {x y : Int} {a b : Nat} (hx : sz x ≤ a) (hy : sz y ≤ b) (h : a + b < 134000000 := by decide) : mulOk x y = true := decide_eq_true (by omega)
theorem sz_mono {x : Int} {a b : Nat} (hx : sz x ≤ a) (h : a ≤ b) : sz x ≤ b := Nat.le_trans hx h
theorem fmod_nonneg_lt {x l : Int} (h : 0 < l) : 0 ≤ x.fmod l ∧ x.fmod l < l := by
  rw [Int.fmod_eq_emod_of_nonneg x (Int.le_of_lt h)]
  exact ⟨Int.emod_nonneg x (by omega), Int.emod_lt_of_pos x h⟩
theorem takeR_bd {x n : Int} {fl : Bool} {l : Int} (h : 0 < l) : 0 ≤ takeR x n fl l ∧ takeR x n fl l < l := by
  unfold takeR
  split <;> exact fmod_nonneg_lt h
theorem sz_fdiv {x l : Int} {k : Nat} (hx : sz x ≤ k) (hl : 0 < l) : sz (x.fdiv l) ≤ k + 1 := by
  apply sz_le
  have h1 := lt_sz x
  have h2 : (x.fdiv l).natAbs ≤ x.natAbs := by
    rw [Int.fdiv_eq_ediv_of_nonneg x (Int.le_of_lt hl)]
    have a1 : x / l * l ≤ x := Int.ediv_mul_le x (by omega)
    have a2 : x < x / l * l + l := by
      have := Int.lt_ediv_add_one_mul_self x hl
      rw [Int.add_mul, Int.one_mul] at this
      exact this
    by_cases h : 0 ≤ x
    · have b1 : 0 ≤ x / l := Int.ediv_nonneg h (by omega)
      have b2 : x / l ≤ x / l * l := by
        have := Int.mul_le_mul_of_nonneg_left (show (1 : Int) ≤ l by omega) b1
        omega
      omega
    · have b1 : x / l < 0 := Int.ediv_neg_of_neg_of_pos (by omega) hl
      have b2 : x ≤ x / l := by
        have h5 : x / l * l + l ≤ x / l + 1 := by
          have : (x / l + 1) * l ≤ (x / l + 1) * 1 := Int.mul_le_mul_of_nonpos_left (by omega) (by omega)
          rw [Int.add_mul, Int.one_mul] at this
          omega
        omega
      omega
  calc (x.fdiv l).natAbs ≤ x.natAbs := h2
    _ < 2 ^ (sz x + 1) := h1
    _ ≤ 2 ^ (k + 1) := Nat.pow_le_pow_right (by decide) (by omega)
/-- digits taken do not make it greater -/
theorem takeX_abs {x l : Int} {fl : Bool} (h : fl = true → 10 ^ 18 ≤ x ∨ 0 ≤ x) (hl : 0 < l) {k : Nat} (hx : x.natAbs < 2 ^ k) : (takeX x fl l).natAbs < 2 ^ k ∧ (fl = true → 0 ≤ takeX x fl l) := by
  unfold takeX
  cases fl with
  | false => exact ⟨hx, fun z => by cases z⟩
  | true =>
    have h0 : 0 ≤ x := by rcases h rfl with z | z <;> omega
    rw [if_pos rfl, Int.fdiv_eq_ediv_of_nonneg x (Int.le_of_lt hl)]
    have b1 : 0 ≤ x / l := Int.ediv_nonneg h0 (by omega)
    have b2 : x / l ≤ x := Int.ediv_le_self l h0
    exact ⟨by omega, fun _ => b1⟩
theorem take_eq {x n : Int} {fl : Bool} {l : Int} (hl : l ≠ 0) (hs : sz l < 9000) (hx : sz x ≤ 2000000) (hn : sz (n + 1) ≤ 1000) :
    m__law_take [poolT x n fl, .fz (.int l)] = .ok (.fz (.int (takeR x (n + 1) fl l))) [poolT (takeX x fl l) (n + 1) fl] := by
  have e1 : ∀ x, divOk x l = true := fun x => decide_eq_true ⟨hl, hs⟩
  cases fl with
  | true =>
    simp [m__law_take, mirOf, startE, b__law_take, fSeq, fAsg, fBin, fPeek, fC, R.bind, R.s, peekS, peekT, ofO, atI, ixN, sPut, sPutAt, frz, gAdd2, gI0, fIfS, fTest, ofB, truD, fSet, fCB, fCons, fNil, g1, gInt, frzs, gMod, gI, fVar, hl, gFdiv, e1, fRet, finF, outs, takeR, takeX]
  | false =>
    have e2 : mulOk x 7919 = true := mulOk_of (b := 13) hx (by decide)
    have e3 : mulOk (n + 1) 104729 = true := mulOk_of (b := 17) hn (by decide)
    have e4 : powOk ((x * 7919 + (n + 1) * 104729 + 13).fmod 2147483647) 5 = true := by
      have := fmod_nonneg_lt (x := x * 7919 + (n + 1) * 104729 + 13) (l := 2147483647) (by decide)
      exact decide_eq_true ⟨by decide, by decide, by omega⟩
    have e5 : ∀ x, divOk x 17 = true := fun x => decide_eq_true ⟨by decide, by decide⟩
    simp [m__law_take, mirOf, startE, b__law_take, fSeq, fAsg, fBin, fPeek, fC, R.bind, R.s, peekS, peekT, ofO, atI, ixN, sPut, sPutAt, frz, gAdd2, gI0, fIfS, fTest, ofB, truD, fSet, fCB, fCons, fNil, g1, gInt, frzs, gMod, gI, fVar, hl, gFdiv, e1, fRet, finF, outs, takeR, takeX, fNext, gMul, e2, e3, gPow, e4, e5]
/-- the script -/
abbrev scr (ns : List Int) : D := .lst (ns.map D.int)
def cellOf (ns : List Int) (k : Nat) : Int := ns.getD k 0
theorem cell_eq (ns : List Int) (k : Nat) : m__law_cell [.fz (scr ns), .fz (.int k)] = .ok (.fz (.int (cellOf ns k))) [] := by
  by_cases h : k < ns.length
  · have e : atI (ns.map D.int) (k : Int) = some (.int (cellOf ns k)) := by
      unfold atI ixN
      rw [if_pos (by omega), if_pos (by simpa using h)]
      show (ns.map D.int)[(k : Int).toNat]? = _
      rw [Int.toNat_natCast, List.getElem?_map, List.getElem?_eq_getElem h]
      unfold cellOf
      rw [List.getD_eq_getElem?_getD, List.getElem?_eq_getElem h]
      rfl
    simp [m__law_cell, mirOf, startE, b__law_cell, fSeq, fIfS, fTestB, fBin, fVar, fCB, fCons, fNil, g1, gLen, frzs, frz, gLt, gI0, R.bind, R.s, ofO, h, fRet, fPeek, peekS, peekT, gIx, scr, e, finF, outs]
  · have e : cellOf ns k = 0 := by
      unfold cellOf
      rw [List.getD_eq_getElem?_getD, List.getElem?_eq_none (by omega)]
      rfl
    simp [m__law_cell, mirOf, startE, b__law_cell, fSeq, fIfS, fTestB, fBin, fVar, fCB, fCons, fNil, g1, gLen, frzs, frz, gLt, gI0, R.bind, R.s, ofO, h, fRet, fNext, fC, scr, e, finF, outs]
/-- the script's numbers are at most so wide -/
def Wide (ns : List Int) : Prop := ∀ z ∈ ns, z.natAbs < 2 ^ 1048576
theorem cell_wide {ns : List Int} (h : Wide ns) (k : Nat) : (cellOf ns k).natAbs < 2 ^ 1048576 := by
  unfold cellOf
  rw [List.getD_eq_getElem?_getD]
  cases e : ns[k]? with
  | none =>
    show (0 : Int).natAbs < _
    exact Nat.pow_pos (by decide)
  | some z => exact h z (List.mem_of_getElem? e)
theorem cell_sz {ns : List Int} (h : Wide ns) (k : Nat) : sz (cellOf ns k) ≤ 1048576 := sz_le (cell_wide h k)
theorem wide_of {ns : List Int} (h : ∀ z ∈ ns, Builtin.Int.intBits z ≤ 1048576) : Wide ns := fun z hz => by
  have b := h z hz
  unfold Builtin.Int.intBits at b
  split at b
  · rename_i e
    have : z.natAbs = 0 := by simpa using e
    rw [this]
    exact Nat.pow_pos (by decide)
  · exact Nat.lt_of_lt_of_le Nat.lt_log2_self (Nat.pow_le_pow_right (by decide) b)
end DL

set_option maxHeartbeats 1000000
namespace DL
open PySem L2
def b_common_c0 : M Bool := fTestB (fBin (gEq2 true) (fVar 3) (fC (.int 0)))
def b_common_w0 : MS := fPar 2 3 (fCons (fVar 3) (fCons (fBin gMod (fVar 2) (fVar 3)) (fNil)))
def b_common : MS := fSeq (fPar 2 3 (fCons (fCB (g1 gAbs) (fCons (fVar 0) (fNil))) (fCons (fCB (g1 gAbs) (fCons (fVar 1) (fNil))) (fNil)))) (fSeq (fWhile (fuelI 3) b_common_c0 b_common_w0) (fRet (fVar 2)))
def m_common : Mir := mirOf 4 [] b_common

def b_combination_e0 : M T := fBin gSub (fVar 5) (fBin gMul (fVar 4) (fVar 6))
def b_combination_c0 : M Bool := fTestB (fBin (gEq2 true) (fPeek 3 (fC (.int 0))) (fC (.int 0)))
def b_combination_w0 : MS := fSeq (fSet 4 (fBin gFdiv (fPeek 2 (fC (.int 0))) (fPeek 3 (fC (.int 0))))) (fPar 2 3 (fCons (fVar 3) (fCons (fCB (g1 gTuple) (fCons (fLc (iArgs zipD (fCons (fVar 2) (fCons (fVar 3) (fNil)))) (sTup (sCons (sName 5) (sCons (sName 6) (sNil)))) fYes b_combination_e0 [5, 6]) (fNil))) (fNil))))
def b_combination_e1 : M T := fUn gNeg (fVar 5)
def b_combination : MS := fSeq (fSet 2 (fTup (fCons (fVar 0) (fCons (fC (.int 1)) (fCons (fC (.int 0)) (fNil)))))) (fSeq (fSet 3 (fTup (fCons (fVar 1) (fCons (fC (.int 0)) (fCons (fC (.int 1)) (fNil)))))) (fSeq (fWhile (fuelT 3) b_combination_c0 b_combination_w0) (fSeq (fIfS (fTestB (fBin gLt (fPeek 2 (fC (.int 0))) (fC (.int 0)))) (fSet 2 (fCB (g1 gTuple) (fCons (fLc (iSeq (fVar 2)) (sName 5) fYes b_combination_e1 [5]) (fNil)))) (fNext)) (fRet (fVar 2)))))
def m_combination : Mir := mirOf 7 [] b_combination

/-! ### loops, turn by turn -/
theorem loopW_go {c : M Bool} {b : MS} {n : Nat} {env e e' : Env} (h1 : c env = .ok true e) (h2 : b e = .nx e') : loopW c b (n + 1) env = loopW c b n e' := by
  simp only [loopW, h1, R.s, h2, if_true]
theorem loopF_go {set : T → Env → Option Env} {b : MS} {d : D} {ds : List D} {env e e' : Env} (h1 : set (.fz d) env = some e) (h2 : b e = .nx e') : loopF set b (d :: ds) env = loopF set b ds e' := by
  simp only [loopF, h1, h2]
theorem loopW_end {c : M Bool} {b : MS} {n : Nat} {env e : Env} (h1 : c env = .ok false e) : loopW c b (n + 1) env = .nx e := by
  simp [loopW, h1, R.s]
/-! ### common -/
theorem abs_if (a : Int) : (if a < 0 then -a else a) = (a.natAbs : Int) := by split <;> omega
theorem nat_fmod (x y : Nat) : (x : Int).fmod y = ((x % y : Nat) : Int) := by
  rw [Int.fmod_eq_emod_of_nonneg _ (by omega)]; rfl
theorem common_loop (A B : Option T) : ∀ (n x y : Nat), y < n → loopW b_common_c0 b_common_w0 n [A, B, some (.fz (.int x)), some (.fz (.int y))] =
    .nx [A, B, some (.fz (.int (Nat.gcd x y))), some (.fz (.int 0))]
  | 0, _, _, h => by omega
  | n + 1, x, y, h => by
    by_cases hy : y = 0
    · subst hy
      have := loopW_end (c := b_common_c0) (b := b_common_w0) (n := n) (env := [A, B, some (.fz (.int x)), some (.fz (.int 0))]) (e := [A, B, some (.fz (.int x)), some (.fz (.int 0))]) (by
        simp [b_common_c0, fTestB, fBin, fVar, fC, R.bind, R.s, frz, gEq2, gEqS, eqS, ofO])
      simpa using this
    · have e : ((y : Int) = 0) = False := by simp; omega
      have ih := common_loop A B n y (x % y) (by have := Nat.mod_lt x (show 0 < y by omega); omega)
      have e2 : Nat.gcd y (x % y) = Nat.gcd x y := by rw [Nat.gcd_comm, ← Nat.gcd_rec, Nat.gcd_comm]
      rw [e2] at ih
      rw [← ih]
      refine loopW_go (e := [A, B, some (.fz (.int x)), some (.fz (.int y))]) ?_ ?_
      · simp [b_common_c0, fTestB, fBin, fVar, fC, R.bind, R.s, frz, gEq2, gEqS, eqS, ofO, hy]
      · simp [b_common_w0, fPar, fCons, fNil, fBin, fVar, R.bind, R.s, frz, ofO, par2, gMod, gI, hy, nat_fmod]
theorem common_eq (a b : Int) : m_common [.fz (.int a), .fz (.int b)] = .ok (.fz (.int (Int.gcd a b))) [] := by
  have e := common_loop (some (.fz (.int a))) (some (.fz (.int b))) (b.natAbs + 1) a.natAbs b.natAbs (by omega)
  simp [m_common, mirOf, startE, b_common, fSeq, fPar, fCons, fNil, fCB, g1, gAbs, frzs, frz, R.bind, R.s, par2, fVar, ofO, abs_if, fWhile, fuelI, e, fRet, finF, outs, Int.gcd]
/-! ### combination -/
theorem comb_turn (A B Q : Option T) {r0 u0 v0 r1 u1 v1 : Int} (h0 : divOk r0 r1 = true) (h1 : mulOk (r0.fdiv r1) r1 = true) (h2 : mulOk (r0.fdiv r1) u1 = true) (h3 : mulOk (r0.fdiv r1) v1 = true) :
    b_combination_w0
      [A, B, some (.fz (.tup [.int r0, .int u0, .int v0])), some (.fz (.tup [.int r1, .int u1, .int v1])), Q, none, none] =
    .nx [A, B, some (.fz (.tup [.int r1, .int u1, .int v1])), some (.fz (.tup [.int (r0 - r0.fdiv r1 * r1), .int (u0 - r0.fdiv r1 * u1), .int (v0 - r0.fdiv r1 * v1)])), some (.fz (.int (r0.fdiv r1))), none, none] := by
  have z1 : (0 : Nat) < sizeLine := by decide
  have z2 : (1 : Nat) < sizeLine := by decide
  have z3 : (2 : Nat) < sizeLine := by decide
  simp [b_combination_w0, b_combination_e0, fSeq, fSet, fBin, gFdiv, fPeek, fC, R.bind, R.s, peekS, peekT, gIx, atI, ixN, frz, ofO, gI, h0, fPar, fCons, fNil, fVar, fCB, fLc, iArgs, zipD, frzs, ofL, pairD, wipeE, loopC, sTup, sCons, sName, sNil, fYes, gMul, h1, h2, h3, gSub, gI0, z1, z2, z3, g1, gTuple, par2]
/-- what the loop keeps: B bounds both numbers -/
structure CI (a b : Int) (B : Nat) (r0 u0 v0 r1 u1 v1 : Int) : Prop where
  e0 : r0 = u0 * a + v0 * b
  e1 : r1 = u1 * a + v1 * b
  g : Int.gcd r0 r1 = Int.gcd a b
  b0 : r0.natAbs ≤ B
  b1 : r1.natAbs ≤ B
  ph : (u0.natAbs + u1.natAbs ≤ 1 ∧ v0.natAbs + v1.natAbs ≤ 1) ∨
    (0 ≤ r0 * r1 ∧ r0 ≠ 0 ∧ (u0.natAbs + u1.natAbs) * (r0.natAbs * r1.natAbs) ≤ (B + 2) * (B * B) ∧ (v0.natAbs + v1.natAbs) * (r0.natAbs * r1.natAbs) ≤ (B + 2) * (B * B) ∧
      u0.natAbs + u1.natAbs ≤ (B + 1) * ((B + 2) * (B * B)) + (B + 2) ∧ v0.natAbs + v1.natAbs ≤ (B + 1) * ((B + 2) * (B * B)) + (B + 2))
theorem fmod_facts {x y : Int} (h : y ≠ 0) : x - x.fdiv y * y = x.fmod y ∧ (x.fmod y).natAbs < y.natAbs ∧ 0 ≤ y * x.fmod y := by
  have e : x - x.fdiv y * y = x.fmod y := by rw [Int.fmod_def, Int.mul_comm]
  refine ⟨e, ?_⟩
  by_cases hp : 0 < y
  · have := fmod_nonneg_lt (x := x) hp
    exact ⟨by omega, Int.mul_nonneg (by omega) this.1⟩
  · have hp : 0 < -y := by omega
    have := fmod_nonneg_lt (x := -x) hp
    rw [Int.neg_fmod_neg] at this
    refine ⟨by omega, ?_⟩
    have h2 := Int.mul_nonneg (show 0 ≤ -y by omega) this.1
    rw [Int.neg_mul_neg] at h2
    exact h2
/-- |q| |y| ≤ |x| + |y|; with like signs |q| |y| + |rest| = |x| -/
theorem fdiv_facts {x y : Int} (h : y ≠ 0) : (x.fdiv y).natAbs * y.natAbs ≤ x.natAbs + y.natAbs := by
  obtain ⟨e, l, _⟩ := fmod_facts (x := x) h
  rw [← Int.natAbs_mul]
  omega
theorem fdiv_like {x y : Int} (h : y ≠ 0) (hs : 0 ≤ x * y) : (x.fdiv y).natAbs * y.natAbs + (x.fmod y).natAbs = x.natAbs := by
  obtain ⟨e, l, s⟩ := fmod_facts (x := x) h
  rw [← Int.natAbs_mul]
  by_cases hp : 0 < y
  · have hx : 0 ≤ x := by
      by_cases hx : 0 ≤ x
      · exact hx
      · have := Int.mul_neg_of_neg_of_pos (show x < 0 by omega) hp
        omega
    have hq : 0 ≤ x.fdiv y := by rw [Int.fdiv_eq_ediv_of_nonneg x (by omega)]; exact Int.ediv_nonneg hx (by omega)
    have := Int.mul_nonneg hq (show 0 ≤ y by omega)
    have m := fmod_nonneg_lt (x := x) hp
    omega
  · have hp : 0 < -y := by omega
    have hx : x ≤ 0 := by
      by_cases hx : x ≤ 0
      · exact hx
      · have := Int.mul_neg_of_pos_of_neg (show 0 < x by omega) (show y < 0 by omega)
        omega
    have hq : 0 ≤ x.fdiv y := by
      rw [← Int.neg_fdiv_neg, Int.fdiv_eq_ediv_of_nonneg _ (by omega)]
      exact Int.ediv_nonneg (by omega) (by omega)
    have := Int.mul_nonneg hq (show 0 ≤ -y by omega)
    have m := fmod_nonneg_lt (x := -x) hp
    rw [Int.neg_fmod_neg] at m
    rw [Int.mul_neg] at this
    omega
/-- sums of coefficients grow by at most |q| + 1 -/
theorem coef_step (x0 x1 q : Int) : x1.natAbs + (x0 - q * x1).natAbs ≤ (q.natAbs + 1) * (x0.natAbs + x1.natAbs) := by
  have h : (x0 - q * x1).natAbs ≤ x0.natAbs + q.natAbs * x1.natAbs := by
    rw [← Int.natAbs_mul]; omega
  have e : (q.natAbs + 1) * (x0.natAbs + x1.natAbs) = q.natAbs * x0.natAbs + q.natAbs * x1.natAbs + (x0.natAbs + x1.natAbs) := by
    rw [Nat.add_mul, Nat.one_mul, Nat.mul_add]
  rw [e]
  omega
theorem phase_step {B R0 R1 R2 q S S' : Nat} (hS' : S' ≤ (q + 1) * S) (h : q * R1 + R2 = R0) (hlt : R2 < R1) (hb : R0 ≤ B) (h0 : 0 < R0) (k : S * (R0 * R1) ≤ (B + 2) * (B * B)) :
    S' * (R1 * R2) ≤ (B + 2) * (B * B) ∧ S' ≤ (B + 1) * ((B + 2) * (B * B)) + (B + 2) := by
  have h1 : (q + 1) * R2 ≤ R0 := by
    rw [Nat.add_mul, Nat.one_mul]
    have : q * R2 ≤ q * R1 := Nat.mul_le_mul_left q (Nat.le_of_lt hlt)
    omega
  have hq : q ≤ R0 := by
    have : q * 1 ≤ q * R1 := Nat.mul_le_mul_left q (by omega)
    omega
  have hS : S ≤ S * (R0 * R1) := Nat.le_mul_of_pos_right S (Nat.mul_pos h0 (by omega))
  constructor
  · calc S' * (R1 * R2) ≤ ((q + 1) * S) * (R1 * R2) := Nat.mul_le_mul_right _ hS'
      _ = (S * R1) * ((q + 1) * R2) := by
        simp only [Nat.mul_comm, Nat.mul_left_comm, Nat.mul_assoc]
      _ ≤ (S * R1) * R0 := Nat.mul_le_mul_left _ h1
      _ = S * (R0 * R1) := by simp only [Nat.mul_comm, Nat.mul_left_comm, Nat.mul_assoc]
      _ ≤ _ := k
  · have : (q + 1) * S ≤ (B + 1) * ((B + 2) * (B * B)) := Nat.mul_le_mul (by omega) (Nat.le_trans hS k)
    omega
theorem first_step {B R0 R1 R2 q S S' : Nat} (hS' : S' ≤ (q + 1) * S) (hS : S ≤ 1) (h : q * R1 ≤ R0 + R1) (h1 : 0 < R1) (hlt : R2 < R1) (hb : R0 ≤ B) (hb1 : R1 ≤ B) :
    S' * (R1 * R2) ≤ (B + 2) * (B * B) ∧ S' ≤ (B + 1) * ((B + 2) * (B * B)) + (B + 2) := by
  have hq : q ≤ R0 + 1 := by
    rcases Nat.lt_or_ge (R0 + 1) q with z | z
    · have : (R0 + 2) * R1 ≤ q * R1 := Nat.mul_le_mul_right R1 z
      have h3 : R0 * 1 ≤ R0 * R1 := Nat.mul_le_mul_left R0 h1
      rw [Nat.add_mul] at this
      omega
    · exact z
  have hs : S' ≤ B + 2 := by
    have : (q + 1) * S ≤ (q + 1) * 1 := Nat.mul_le_mul_left _ hS
    omega
  exact ⟨Nat.mul_le_mul hs (Nat.mul_le_mul hb1 (by omega)), by omega⟩
theorem CI.step {a b : Int} {B : Nat} {r0 u0 v0 r1 u1 v1 : Int} (h : CI a b B r0 u0 v0 r1 u1 v1) (n1 : r1 ≠ 0) :
    CI a b B r1 u1 v1 (r0 - r0.fdiv r1 * r1) (u0 - r0.fdiv r1 * u1) (v0 - r0.fdiv r1 * v1) := by
  obtain ⟨e, l, s⟩ := fmod_facts (x := r0) n1
  have e' : r0 - r0.fdiv r1 * r1 = (u0 - r0.fdiv r1 * u1) * a + (v0 - r0.fdiv r1 * v1) * b := by
    have h0 := h.e0
    have h1 := h.e1
    generalize r0.fdiv r1 = q at *
    rw [Int.sub_mul, Int.sub_mul, Int.mul_assoc, Int.mul_assoc]
    have : q * r1 = q * (u1 * a) + q * (v1 * b) := by rw [h1, Int.mul_add]
    omega
  have p1 : 0 < r1.natAbs := by omega
  refine ⟨h.e1, e', ?_, h.b1, by rw [e]; have := h.b1; omega, .inr ?_⟩
  · rw [Int.gcd_sub_mul_right_right, Int.gcd_comm]; exact h.g
  · rw [e]
    refine ⟨s, n1, ?_⟩
    rcases h.ph with ⟨s1, s2⟩ | ⟨sg, n0, k1, k2, _, _⟩
    · have f := fdiv_facts (x := r0) n1
      have a1 := first_step (coef_step u0 u1 (r0.fdiv r1)) s1 f p1 l h.b0 h.b1
      have a2 := first_step (coef_step v0 v1 (r0.fdiv r1)) s2 f p1 l h.b0 h.b1
      exact ⟨a1.1, a2.1, a1.2, a2.2⟩
    · have f := fdiv_like n1 sg
      have a1 := phase_step (coef_step u0 u1 (r0.fdiv r1)) f l h.b0 (by omega) k1
      have a2 := phase_step (coef_step v0 v1 (r0.fdiv r1)) f l h.b0 (by omega) k2
      exact ⟨a1.1, a2.1, a1.2, a2.2⟩
/-- the coefficients' bound -/
def cB (B : Nat) : Nat := (B + 1) * ((B + 2) * (B * B)) + (B + 2)
theorem CI.sum {a b : Int} {B : Nat} {r0 u0 v0 r1 u1 v1 : Int} (h : CI a b B r0 u0 v0 r1 u1 v1) : u0.natAbs + u1.natAbs ≤ cB B ∧ v0.natAbs + v1.natAbs ≤ cB B := by
  unfold cB
  rcases h.ph with ⟨s1, s2⟩ | ⟨_, _, _, _, k1, k2⟩
  · exact ⟨by omega, by omega⟩
  · exact ⟨k1, k2⟩
theorem pow_cB {n B : Nat} (h : B < 2 ^ n) (hn : 0 < n) : cB B < 2 ^ (4 * n + 4) := by
  have two : 2 ≤ 2 ^ n := by
    calc 2 = 2 ^ 1 := rfl
      _ ≤ 2 ^ n := Nat.pow_le_pow_right (by decide) hn
  unfold cB
  generalize hX : 2 ^ n = X at *
  have e : 2 ^ (4 * n + 4) = 16 * (X * (X * (X * X))) := by
    rw [← hX, Nat.pow_add, Nat.mul_comm, show 4 * n = n + (n + (n + n)) by omega, Nat.pow_add, Nat.pow_add, Nat.pow_add]
  rw [e]
  have a1 : B + 1 ≤ X := h
  have a2 : B + 2 ≤ 2 * X := by omega
  have a3 : B * B ≤ X * X := Nat.mul_le_mul (by omega) (by omega)
  have a4 : (B + 1) * ((B + 2) * (B * B)) ≤ X * (2 * X * (X * X)) := Nat.mul_le_mul a1 (Nat.mul_le_mul a2 a3)
  have e2 : X * (2 * X * (X * X)) = 2 * (X * (X * (X * X))) := by simp only [Nat.mul_comm, Nat.mul_left_comm, Nat.mul_assoc]
  have a5 : X ≤ X * (X * (X * X)) := Nat.le_mul_of_pos_right X (Nat.mul_pos (by omega) (Nat.mul_pos (by omega) (by omega)))
  omega
theorem comb_loop {a b : Int} {B n : Nat} (hB : B < 2 ^ n) (hn : 0 < n) (hn2 : n ≤ 8000) (A A' : Option T) : ∀ (k : Nat) (r0 u0 v0 r1 u1 v1 : Int) (Q : Option T), r1.natAbs < k → CI a b B r0 u0 v0 r1 u1 v1 →
    ∃ d u v u' v' Q', loopW b_combination_c0 b_combination_w0 k
      [A, A', some (.fz (.tup [.int r0, .int u0, .int v0])), some (.fz (.tup [.int r1, .int u1, .int v1])), Q, none, none] =
    .nx [A, A', some (.fz (.tup [.int d, .int u, .int v])), some (.fz (.tup [.int 0, .int u', .int v'])), Q', none, none] ∧ CI a b B d u v 0 u' v'
  | 0, _, _, _, _, _, _, _, h, _ => by omega
  | k + 1, r0, u0, v0, r1, u1, v1, Q, h, ci => by
    by_cases h1 : r1 = 0
    · subst h1
      refine ⟨r0, u0, v0, u1, v1, Q, ?_, ci⟩
      exact loopW_end (by simp [b_combination_c0, fTestB, fBin, fPeek, fC, R.bind, R.s, peekS, peekT, gIx, atI, ixN, frz, ofO, gEq2, gEqS, eqS])
    · have ci2 := ci.step h1
      obtain ⟨e, l, _⟩ := fmod_facts (x := r0) h1
      have p1 : 0 < r1.natAbs := by omega
      have hq : (r0.fdiv r1).natAbs ≤ B + 1 := by
        have f := fdiv_facts (x := r0) h1
        have b0 := ci.b0
        rcases Nat.lt_or_ge (B + 1) (r0.fdiv r1).natAbs with z | z
        · have : (B + 2) * r1.natAbs ≤ (r0.fdiv r1).natAbs * r1.natAbs := Nat.mul_le_mul_right _ z
          have h3 : B * 1 ≤ B * r1.natAbs := Nat.mul_le_mul_left B p1
          rw [Nat.add_mul] at this
          omega
        · exact z
      have pw : 2 ^ n ≤ 2 ^ 8000 := Nat.pow_le_pow_right (by decide) hn2
      have pc := pow_cB hB hn
      have sq : sz (r0.fdiv r1) ≤ n + 1 := sz_le (by rw [Nat.pow_succ]; omega)
      have s1 : sz r1 ≤ n := sz_le (by have := ci.b1; omega)
      have su : sz u1 ≤ 4 * n + 4 := sz_le (by have := ci.sum.1; omega)
      have sv : sz v1 ≤ 4 * n + 4 := sz_le (by have := ci.sum.2; omega)
      have t := comb_turn A A' Q (u0 := u0) (v0 := v0) (r0 := r0) (r1 := r1) (u1 := u1) (v1 := v1) (decide_eq_true ⟨h1, by omega⟩) (mulOk_of sq s1 (by omega)) (mulOk_of sq su (by omega)) (mulOk_of sq sv (by omega))
      obtain ⟨d, u, v, u', v', Q', ih, ci3⟩ := comb_loop hB hn hn2 A A' k r1 u1 v1 _ _ _ (some (.fz (.int (r0.fdiv r1)))) (by rw [e]; omega) ci2
      refine ⟨d, u, v, u', v', Q', ?_, ci3⟩
      rw [← ih]
      exact loopW_go (by simp [b_combination_c0, fTestB, fBin, fPeek, fC, R.bind, R.s, peekS, peekT, gIx, atI, ixN, frz, ofO, gEq2, gEqS, eqS, h1]) t
theorem comb_eq {a b : Int} {n : Nat} (ha : a.natAbs < 2 ^ n) (hb : b.natAbs < 2 ^ n) (hn : 0 < n) (hn2 : n ≤ 8000) : ∃ u v : Int, m_combination [.fz (.int a), .fz (.int b)] = .ok (.fz (.tup [.int (Int.gcd a b), .int u, .int v])) [] ∧
    u * a + v * b = (Int.gcd a b : Int) ∧ u.natAbs < 2 ^ (4 * n + 4) ∧ v.natAbs < 2 ^ (4 * n + 4) := by
  obtain ⟨d, u, v, u', v', Q', e, ci⟩ := comb_loop (a := a) (b := b) (B := max a.natAbs b.natAbs) (n := n) (by omega) hn hn2 (some (.fz (.int a))) (some (.fz (.int b))) (b.natAbs + 1) a 1 0 b 0 1 none (by omega)
    ⟨by omega, by omega, rfl, by omega, by omega, .inl ⟨by decide, by decide⟩⟩
  have pc := pow_cB (n := n) (B := max a.natAbs b.natAbs) (by omega) hn
  have hg : d.natAbs = Int.gcd a b := by have := ci.g; rw [Int.gcd_zero_right] at this; exact this
  have sm := ci.sum
  have z3 : (3 : Nat) ≤ sizeLine := by decide
  have z1 : (0 : Nat) < sizeLine := by decide
  have z2 : (1 : Nat) < sizeLine := by decide
  have z4 : (2 : Nat) < sizeLine := by decide
  by_cases hd : d < 0
  · refine ⟨-u, -v, ?_, ?_, by omega, by omega⟩
    · have ed : (Int.gcd a b : Int) = -d := by omega
      rw [ed]
      simp [m_combination, mirOf, startE, b_combination, fSeq, fSet, fTup, fCons, fNil, fVar, fC, R.bind, R.s, frz, frzs, z3, fWhile, fuelT, e, fIfS, fTestB, fBin, fPeek, peekS, peekT, gIx, atI, ixN, ofO, gLt, gI0, hd, fCB, g1, gTuple, fLc, iSeq, ofL, seqD, wipeE, loopC, sName, fYes, b_combination_e1, fUn, gNeg, z1, z2, z4, fRet, finF, outs]
    · have := ci.e0
      rw [Int.neg_mul, Int.neg_mul]
      omega
  · refine ⟨u, v, ?_, ?_, by omega, by omega⟩
    · have ed : (Int.gcd a b : Int) = d := by omega
      rw [ed]
      simp [m_combination, mirOf, startE, b_combination, fSeq, fSet, fTup, fCons, fNil, fVar, fC, R.bind, R.s, frz, frzs, z3, fWhile, fuelT, e, fIfS, fTestB, fBin, fPeek, peekS, peekT, gIx, atI, ixN, ofO, gLt, gI0, hd, fNext, fRet, finF, outs]
    · have := ci.e0
      omega
end DL

set_option maxHeartbeats 1000000
namespace DL
open PySem PySem.Spec PyProof.Rows L2
theorem rps_ints (Z : Wd) (F : Hp) : ∀ ns : List Int, Rps Z F (ns.map V.int) (ns.map D.int)
  | [] => trivial
  | _ :: ns => ⟨rfl, rps_ints Z F ns⟩
/-- the law's promise from its function -/
theorem law_sp {K : PySem.W.Frag} {C : Nat → Addr} {m : Mir} (h : ∀ ns : List Int, ns.length ≤ 63 → Wide ns → m [.fz (scr ns)] = .ok (.fz (.bl true)) []) (H : Hp) (a : Addr) (ns : List Int) (hl : ns.length ≤ 63) (hb : ∀ z ∈ ns, Builtin.Int.intBits z ≤ 1048576) (hS : SqL K H a (ns.map V.int)) :
    spOf ⟨K, C⟩ 1 [] m [.ref a] H (fun v _ => v = .bl true) fun _ _ _ => False := by
  refine ⟨[.fz (scr ns)], [], rfl, rfl, ⟨H, [], fun _ _ e => e, ⟨[], [], ⟨⟨a, _, rfl, hS, rps_ints _ _ ns⟩, rfl⟩, rfl, rfl⟩, List.nodup_nil, fun _ h => nomatch h⟩, ?_⟩
  rw [h ns hl (wide_of hb)]
  exact ⟨rfl, fun H' v r => r.fz⟩
theorem law_cx {P : Program} {w : World} {H : Hp} {s : Shared} {e : Value} {s' : Shared} (h : L2.CX P w [] H s (fun _ _ _ => False) e s') : False := by
  obtain ⟨_, _, _, _, _, _, _, _, _, _, _, _, z⟩ := h
  exact z.elim
/-- a def of the top by what the head finds -/
theorem at_mk {K : PySem.W.Frag} {h : Heap} {mg : Str → Option Value} (X : K.In h) (G : h.Ns mainGlobals mg) {x : Str} {st : Stmt} {ps : List Str} {f : Addr} {od an : Option Addr} {sl : Array (Option Value)} {oc kV dc pm cd ct : Value}
    (a : PySem.W.nsIn K mainGlobals x = some (some (.ref f))) (l : K.lookup f = some ⟨oc, od, .func (PySem.W.fnOf x x (defArgs st) (defBody st) (defScope st) .none kV dc pm an cd ct), sl⟩) (c : PySem.W.codeIn K cd x = true) (k : PySem.W.keepIn K (.ref f) = true)
    (hb : ∀ (kV doc pm : Value) (an : Option Addr) (cdv ct : Value) (us : List Value), us.length = ps.length → bindArgs (PySem.W.fnOf x x (defArgs st) (defBody st) (defScope st) .none kV doc pm an cdv ct) ⟨us, []⟩ = pure (ps.zip us)) : At K mg x st ps :=
  ⟨f, _, PySem.W.mg_of X G a, fun_mk l c k, (fun_mk (st := st) l c k).binds hb⟩
/-- the law's own def, for the end -/
theorem fn_mk' {P : Program} {w : World} {K : PySem.W.Frag} {mg : Str → Option Value} {base : Heap} {C : Nat → Addr} {x : Str} {st : Stmt} {N ps : List Str} {k : Nat} {io : List Nat} {fb : MS} {f : Addr} {fd : FuncData} (F : Fun K x x st f fd) (S : FnScope N ps (defScope st)) (hio : io.Nodup) (hib : ∀ j ∈ io, j < ps.length)
    (hbody : ∀ (f : Addr) (cdv : Value) (A : Around) (outer : List PySem.Env) (s : Shared) (H : Hp) (E : XK) (s0 : L2.St) (W : WX), Room k (A.deeper (envOfC x (defScope st) s.heap.objs.size f cdv)) →
      DSs (cxOf (L2.CX P w) P w K mg base N x (defScope st) f cdv A outer s H E) ⟨⟨K, C⟩, io, s0, N.length, false⟩ W (defBody st) fb) : FnOk P w K mg base (L2.CX P w) (k + 1) f fd ps (spOf ⟨K, C⟩ ps.length io (mirOf N.length io fb)) := by
  refine fn_d F S hio hib fun X G W hX hz hi hn hh => ?_
  obtain ⟨cdv, A, outer, s, H, E, rfl, hr⟩ := hX
  obtain ⟨Z, io', s0, n, hot⟩ := G
  cases hz
  cases hi
  cases hn
  cases hh
  exact hbody f cdv A outer s H E s0 W hr
end DL

set_option maxHeartbeats 4000000
namespace DL
open PySem PySem.Spec PyProof.Rows L2
/-! ### what the head finds of an error class -/
def clsBody : Stmt → List Stmt
  | .ClassDef (body := b) .. => b
  | _ => []
def errB (K : PySem.W.Frag) (C fI : Addr) (flds : List Str) : Bool := xfB K C && (decide (PySem.W.findIn K (.ref C) "__setattr__" = some (some (.builtin "object.__setattr__"))) && (decide (PySem.W.typeIn K (.ref C) = some (.type "type")) && (PySem.W.keepIn K (.ref C) && (decide (PySem.W.mroIn K C (.ref C) = some true) &&
  (decide (PySem.W.ks_superIn K C C "__init__" = some (some (.builtin "ValueError.__init__"))) && (decide (PySem.W.subIn K (.ref C) (.type "ValueError") = some true) && (decide (PySem.W.typeIn K (.ref fI) = some (.type "function")) && flds.all fun f => decide (PySem.W.findIn K (.ref C) f = some none))))))))
structure ErrF (K : PySem.W.Frag) (C fI : Addr) (flds : List Str) : Prop where
  xf : XfC K C
  sa : PySem.W.findIn K (.ref C) "__setattr__" = some (some (.builtin "object.__setattr__"))
  ty : PySem.W.typeIn K (.ref C) = some (.type "type")
  kp : PySem.W.keepIn K (.ref C) = true
  sub : PySem.W.mroIn K C (.ref C) = some true
  ini : PySem.W.ks_superIn K C C "__init__" = some (some (.builtin "ValueError.__init__"))
  vb : PySem.W.subIn K (.ref C) (.type "ValueError") = some true
  tI : PySem.W.typeIn K (.ref fI) = some (.type "function")
  no : ∀ f ∈ flds, PySem.W.findIn K (.ref C) f = some none
theorem errB_ok {K : PySem.W.Frag} {C fI : Addr} {flds : List Str} (h : errB K C fI flds = true) : ErrF K C fI flds := by
  unfold errB at h
  simp only [Bool.and_eq_true, decide_eq_true_eq] at h
  obtain ⟨h1, h2, h3, h4, h5, h6, h7, h8, h9⟩ := h
  exact ⟨xfB_ok h1, h2, h3, h4, h5, h6, h7, h8, fun f hf => of_decide_eq_true (List.all_eq_true.mp h9 f hf)⟩
section
variable {P : Program} {w : World} {K : PySem.W.Frag} {mg : Str → Option Value} {base : Heap} {C : Nat → Addr} {c : Nat} {fI : Addr} {flds : List Str}
theorem ErrF.oex (E : ErrF K (C c) fI flds) {nm q : Str} {N : Addr} {bs : List Value} {bm : List Value} {sn : List Str} {sub : List Value} {ab : Bool} {col : Option Bool} {dd : Option Addr} {m0 m1 m2 m3 m5 : Option Value}
    (x : K.lookup (C c) = some (excClassObj nm q (C c) N bs bm true sn sub ab col dd m0 m1 m2 m3 m5 "ValueError.__new__")) (hbm : PySem.HandSPX.refsVE bm = true) : OexC K (C c) :=
  ⟨⟨nm, q, N, bs, bm, sn, sub, ab, col, dd, m0, m1, m2, m3, m5, x, hbm⟩, E.sa, E.xf.exC, E.ty, E.kp⟩
theorem ErrF.sup (E : ErrF K (C c) fI flds) (O : OexC K (C c)) (nos : PySem.W.nsIn K mainGlobals "super" = some none) (any : PySem.W.nsIn K cStatics "thirdparty.any" = some none) (top : (P.main.scope.names.lookup ("super" : Str)).isSome = false) : SupC P K (C c) :=
  ⟨O, E.sub, nos, any, E.ini, E.vb, top⟩
/-- the def of an error's __init__, by what the head finds -/
theorem supF_mk {st : Stmt} {qual : Str} {Ca : Addr} {oc kV dc pm ct ccl cl : Value} {od an cdd cld : Option Addr} {cda cc : Addr} {sl ccs csl : Array (Option Value)} {vs : Array Value} {file : Str} {tf : Tok}
    (l : K.lookup fI = some ⟨oc, od, .func (PySem.W.ksFn "__init__" qual (defArgs st) (defBody st) (defScope st) .none kV dc pm an (.ref cda) ct cc), sl⟩) (cI : PySem.W.codeIn K (.ref cda) qual = true) (lc : K.lookup cda = some ⟨ccl, cdd, .fields vs, ccs⟩) (hv : vs[2]? = some (.str file tf)) (hf : ((P.main.file : Str) == file) = true)
    (le : K.lookup cc = some ⟨cl, cld, .cell (some (.ref Ca)), csl⟩) : SupF P K "__init__" qual st fI (PySem.W.ksFn "__init__" qual (defArgs st) (defBody st) (defScope st) .none kV dc pm an (.ref cda) ct cc) Ca :=
  ⟨oc, od, kV, dc, pm, an, cda, ct, sl, cc, ccl, cdd, vs, ccs, file, tf, cl, cld, csl, rfl, l, cI, lc, hv, hf, le⟩
end
/-- the pairs of classes: list cs, which of them the k-th takes -/
def exmB (K : PySem.W.Frag) (cs : List Addr) (es : List Nat) (k : Nat) : Bool := es.all fun i => decide (PySem.W.exmOne K (.ref (cs.getD i 0)) (.ref (cs.getD k 0)) = some (decide (i = k)))
theorem exmB_ok {K : PySem.W.Frag} {cs : List Addr} {es : List Nat} {k : Nat} (h : exmB K cs es k = true) : Exm K (fun i => cs.getD i 0) es k := fun c hc => of_decide_eq_true (List.all_eq_true.mp h c hc)
/-- the law's promise, for any classes -/
def spLaw (K : PySem.W.Frag) (m : Mir) : Sp := fun vs H Q E => ∀ C, spOf ⟨K, C⟩ 1 [] m vs H Q E
theorem law_sp2 {K : PySem.W.Frag} {m : Mir} (h : ∀ ns : List Int, ns.length ≤ 63 → Wide ns → m [.fz (scr ns)] = .ok (.fz (.bl true)) []) (H : Hp) (a : Addr) (ns : List Int) (hl : ns.length ≤ 63) (hb : ∀ z ∈ ns, Builtin.Int.intBits z ≤ 1048576) (hS : SqL K H a (ns.map V.int)) :
    spLaw K m [.ref a] H (fun v _ => v = .bl true) fun _ _ _ => False := fun C => law_sp h H a ns hl hb hS
theorem law_imp {P : Program} {w : World} {K : PySem.W.Frag} {mg : Str → Option Value} {base : Heap} {k : Nat} {f : Addr} {fd : FuncData} {ps : List Str} {m : Mir} {C : Nat → Addr} (F : FnOk P w K mg base (L2.CX P w) k f fd ps (spOf ⟨K, C⟩ 1 [] m)) : FnOk P w K mg base (L2.CX P w) k f fd ps (spLaw K m) := F.imp fun vs H Q E h => h C
end DL
namespace DL
open PySem PySem.Spec PyProof.Rows L2
theorem fre_by {l : List (Str × NameKind)} (h : (l.all fun p => p.2 != .free || p.1 == ("__class__" : Str)) = true) : ∀ x, l.lookup x = some .free → x = "__class__" := fun x hx => by
  have := List.all_eq_true.mp h _ (PySem.mem_of_lookup hx)
  simpa using this
structure Caught (K : PySem.W.Frag) (mg : Str → Option Value) (C : Nat → Addr) (es : List Nat) (k : Nat) (x : Str) (flds : List Str) : Prop where
  exm : Exm K C es k
  gl : mg x = some (.ref (C k))
  xf : XfC K (C k)
  no : ∀ f ∈ flds, PySem.W.findIn K (.ref (C k)) f = some none
end DL

set_option maxHeartbeats 1000000
namespace DL
open PySem L2
/-! ### primes -/
def fact : Nat → Nat
  | 0 => 1
  | n + 1 => (n + 1) * fact n
def fuelF (i : Nat) (e : Env) : Nat := match e[i]? with
  | some (some (.fz (.int n))) => fact (n.natAbs + 2) + n.natAbs + 4
  | _ => 0
/-- no divisor from d on up to the root -/
def Pr (n : Nat) : Prop := 2 ≤ n ∧ ∀ d, 2 ≤ d → d < n → ¬ d ∣ n
instance : DecidablePred Pr := fun n => decidable_of_iff (2 ≤ n ∧ ∀ d, d < n → 2 ≤ d → ¬ d ∣ n) ⟨fun h => ⟨h.1, fun d a b => h.2 d b a⟩, fun h => ⟨h.1, fun d a b => h.2 d b a⟩⟩
theorem Pr.dvd {n d : Nat} (h : Pr n) (hd : d ∣ n) : d = 1 ∨ d = n := by
  have hn := h.1
  have hle := Nat.le_of_dvd (by omega) hd
  by_cases h1 : d = 1
  · exact .inl h1
  by_cases h2 : d = n
  · exact .inr h2
  have h0 : d ≠ 0 := fun z => by subst z; have := Nat.eq_zero_of_zero_dvd hd; omega
  exact absurd hd (h.2 d (by omega) (by omega))
/-- a composite has a divisor up to its root -/
theorem small_div {n d : Nat} (hd : 2 ≤ d) (hl : d < n) (h : d ∣ n) : ∃ e, 2 ≤ e ∧ e * e ≤ n ∧ e ∣ n := by
  obtain ⟨c, rfl⟩ := h
  by_cases hc : d ≤ c
  · exact ⟨d, hd, Nat.mul_le_mul_left d hc, Nat.dvd_mul_right ..⟩
  · have c2 : 2 ≤ c := by
      rcases c with _ | _ | c
      · omega
      · omega
      · omega
    exact ⟨c, c2, Nat.mul_le_mul_right c (by omega), Nat.dvd_mul_left ..⟩
/-- every number from 2 on has a prime divisor -/
theorem exists_prime_div (n : Nat) (h : 2 ≤ n) : ∃ p, Pr p ∧ p ∣ n := by
  induction n using Nat.strongRecOn with
  | _ n ih =>
    by_cases hp : Pr n
    · exact ⟨n, hp, Nat.dvd_refl n⟩
    · have : ∃ d, 2 ≤ d ∧ d < n ∧ d ∣ n := by
        apply Classical.byContradiction
        intro hh
        exact hp ⟨h, fun d a b c => hh ⟨d, a, b, c⟩⟩
      obtain ⟨d, a, b, c⟩ := this
      obtain ⟨p, hp', hd⟩ := ih d b a
      exact ⟨p, hp', Nat.dvd_trans hd c⟩
theorem dvd_fact : ∀ (n d : Nat), 1 ≤ d → d ≤ n → d ∣ fact n
  | 0, d, h, h' => by omega
  | n + 1, d, h, h' => by
    unfold fact
    by_cases e : d = n + 1
    · subst e; exact Nat.dvd_mul_right ..
    · exact Nat.dvd_trans (dvd_fact n d h (by omega)) (Nat.dvd_mul_left ..)
theorem fact_pos : ∀ n, 1 ≤ fact n
  | 0 => Nat.le_refl 1
  | n + 1 => Nat.mul_pos (Nat.succ_pos n) (fact_pos n)
theorem prime_above (n : Nat) : ∃ p, Pr p ∧ n < p ∧ p ≤ fact n + 1 := by
  obtain ⟨p, hp, hd⟩ := exists_prime_div (fact n + 1) (by have := fact_pos n; omega)
  refine ⟨p, hp, ?_, Nat.le_of_dvd (by omega) hd⟩
  apply Classical.byContradiction
  intro hh
  have h1 := dvd_fact n p (by have := hp.1; omega) (by omega)
  have h2 := (Nat.dvd_add_right h1).mp hd
  have := Nat.le_of_dvd (by omega) h2
  have := hp.1
  omega
/-- the next prime from n on -/
theorem next_ex (n : Nat) : ∃ p, Pr p ∧ n ≤ p ∧ ∀ q, n ≤ q → q < p → ¬ Pr q := by
  obtain ⟨p, hp, hn, _⟩ := prime_above n
  have key : ∀ m, ∀ p, Pr p → n ≤ p → p - n ≤ m → ∃ p, Pr p ∧ n ≤ p ∧ ∀ q, n ≤ q → q < p → ¬ Pr q := by
    intro m
    induction m with
    | zero =>
      intro p hp hn hm
      exact ⟨p, hp, hn, fun q h1 h2 => by omega⟩
    | succ m ih =>
      intro p hp hn hm
      by_cases hh : ∃ q, n ≤ q ∧ q < p ∧ Pr q
      · obtain ⟨q, h1, h2, h3⟩ := hh
        exact ih q h3 h1 (by omega)
      · exact ⟨p, hp, hn, fun q h1 h2 h3 => hh ⟨q, h1, h2, h3⟩⟩
  exact key _ p hp (by omega) (Nat.le_refl _)
def b_is_prime_c0 : M Bool := fTestB (fBin gLe (fBin gMul (fVar 1) (fVar 1)) (fVar 0))
def b_is_prime_w0 : MS := fSeq (fIfS (fTestB (fBin (gEq2 false) (fBin gMod (fVar 0) (fVar 1)) (fC (.int 0)))) (fRet (fC (.bl false))) (fNext)) (fAug gAdd 1 (fC (.int 1)))
def b_is_prime : MS := fSeq (fIfS (fTestB (fBin gLt (fVar 0) (fC (.int 2)))) (fRet (fC (.bl false))) (fNext)) (fSeq (fSet 1 (fC (.int 2))) (fSeq (fWhile (fuelI 0) b_is_prime_c0 b_is_prime_w0) (fRet (fC (.bl true)))))
def m_is_prime : Mir := mirOf 2 [] b_is_prime
def b__law_is_prime_c0 : M Bool := fTestB (fBin gLe (fBin gMul (fVar 1) (fVar 1)) (fVar 0))
def b__law_is_prime_w0 : MS := fSeq (fIfS (fTestB (fBin (gEq2 false) (fBin gMod (fVar 0) (fVar 1)) (fC (.int 0)))) (fRet (fC (.bl false))) (fNext)) (fSet 1 (fBin gAdd2 (fVar 1) (fC (.int 1))))
def b__law_is_prime : MS := fSeq (fIfS (fTestB (fBin gLt (fVar 0) (fC (.int 2)))) (fRet (fC (.bl false))) (fNext)) (fSeq (fSet 1 (fC (.int 2))) (fSeq (fWhile (fuelI 0) b__law_is_prime_c0 b__law_is_prime_w0) (fRet (fC (.bl true)))))
def m__law_is_prime : Mir := mirOf 2 [] b__law_is_prime
def b__law_next_prime_c0 : M Bool := fNot (fTest (fCall m__law_is_prime [] [none] (fCons (fVar 1) (fNil))))
def b__law_next_prime_w0 : MS := fSet 1 (fBin gAdd2 (fVar 1) (fC (.int 1)))
def b__law_next_prime : MS := fSeq (fSet 1 (fCB (g2 gMax2) (fCons (fC (.int 2)) (fCons (fVar 0) (fNil))))) (fSeq (fWhile (fuelF 0) b__law_next_prime_c0 b__law_next_prime_w0) (fRet (fVar 1)))
def m__law_next_prime : Mir := mirOf 2 [] b__law_next_prime
theorem mulOk_small {x y : Int} (hx : x.natAbs < 2 ^ 60000000) (hy : y.natAbs < 2 ^ 60000000) : mulOk x y = true := mulOk_of (a := 60000000) (b := 60000000) (sz_le hx) (sz_le hy)
/-- the size that laws keep to -/
def Sm (n : Nat) : Prop := n < 2 ^ 1000000
theorem mulOk_nat {d n : Nat} (hd : d ≤ n + 2) (hn : Sm n) : mulOk d d = true := by
  have e : sz (d : Int) ≤ 1000002 := by
    apply sz_le
    rw [Int.natAbs_natCast]
    have h1 : (2 : Nat) ^ 1000002 = 2 ^ 1000000 * 4 := by rw [show 1000002 = 1000000 + 2 from rfl, Nat.pow_add]
    have h2 : 1 ≤ (2 : Nat) ^ 1000000 := Nat.pow_pos (by decide)
    have h3 : n < 2 ^ 1000000 := hn
    rw [h1]
    generalize (2 : Nat) ^ 1000000 = B at *
    omega
  exact mulOk_of e e
theorem nat_fmod' (x y : Nat) : (x : Int).fmod y = ((x % y : Nat) : Int) := nat_fmod x y
/-- the loop of is_prime from a divisor on -/
theorem is_prime_loop (n : Nat) (hn : Sm n) : ∀ (f d : Nat), 2 ≤ d → n + 2 - d ≤ f → 0 < f → d ≤ n + 2 → (∃ e, d ≤ e ∧ e * e ≤ n ∧ e ∣ n) →
    ∃ en, loopW b_is_prime_c0 b_is_prime_w0 f [some (.fz (.int n)), some (.fz (.int d))] = .rt (.fz (.bl false)) en
  | 0, d, _, hf, h0, _, _ => by omega
  | f + 1, d, hd, hf, _, hdn, ⟨e, he, hee, hen⟩ => by
    have hdd : d * d ≤ n := Nat.le_trans (Nat.mul_le_mul he he) hee
    have hdn' : d ≤ n := Nat.le_trans (Nat.le_mul_self d) hdd
    have hm := mulOk_nat (d := d) (n := n) (by omega) hn
    have hc : b_is_prime_c0 [some (.fz (.int n)), some (.fz (.int d))] = .ok true [some (.fz (.int n)), some (.fz (.int d))] := by
      have : (d : Int) * d ≤ n := by exact_mod_cast hdd
      simp [b_is_prime_c0, hm, this]
    have hd0 : (d : Int) ≠ 0 := by omega
    have hd0' : d ≠ 0 := by omega
    by_cases hdvd : n % d = 0
    · refine ⟨[some (.fz (.int n)), some (.fz (.int d))], ?_⟩
      have hb : b_is_prime_w0 [some (.fz (.int n)), some (.fz (.int d))] = .rt (.fz (.bl false)) [some (.fz (.int n)), some (.fz (.int d))] := by
        have : ((n : Int).fmod d) = 0 := by rw [nat_fmod', hdvd]; rfl
        simp [b_is_prime_w0, hd0, hd0', this]
      simp [loopW, hc, hb]
    · have hb : b_is_prime_w0 [some (.fz (.int n)), some (.fz (.int d))] = .nx [some (.fz (.int n)), some (.fz (.int ((d + 1 : Nat) : Int)))] := by
        have : ((n : Int).fmod d) ≠ 0 := by rw [nat_fmod']; omega
        simp [b_is_prime_w0, hd0, hd0', this]
      have hne : e ≠ d := fun z => by
        subst z
        exact hdvd (Nat.mod_eq_zero_of_dvd hen)
      obtain ⟨en, ih⟩ := is_prime_loop n hn f (d + 1) (by omega) (by omega) (by omega) (by omega) ⟨e, by omega, hee, hen⟩
      exact ⟨en, (loopW_go hc hb).trans ih⟩
theorem is_prime_loop2 (n : Nat) (hn : Sm n) : ∀ (f d : Nat), 2 ≤ d → n + 2 - d ≤ f → 0 < f → d ≤ n + 2 → (∀ e, d ≤ e → e * e ≤ n → ¬ e ∣ n) →
    ∃ en, loopW b_is_prime_c0 b_is_prime_w0 f [some (.fz (.int n)), some (.fz (.int d))] = .nx en
  | 0, d, _, hf, h0, _, _ => by omega
  | f + 1, d, hd, hf, _, hdn, hno => by
    have hd0 : (d : Int) ≠ 0 := by omega
    have hd0' : d ≠ 0 := by omega
    by_cases hdd : d * d ≤ n
    · have hdn' : d ≤ n := Nat.le_trans (Nat.le_mul_self d) hdd
      have hm := mulOk_nat (d := d) (n := n) (by omega) hn
      have hc : b_is_prime_c0 [some (.fz (.int n)), some (.fz (.int d))] = .ok true [some (.fz (.int n)), some (.fz (.int d))] := by
        have : (d : Int) * d ≤ n := by exact_mod_cast hdd
        simp [b_is_prime_c0, hm, this]
      have hnd := hno d (Nat.le_refl d) hdd
      have hb : b_is_prime_w0 [some (.fz (.int n)), some (.fz (.int d))] = .nx [some (.fz (.int n)), some (.fz (.int ((d + 1 : Nat) : Int)))] := by
        have : ((n : Int).fmod d) ≠ 0 := by
          rw [nat_fmod']
          intro z
          exact hnd (Nat.dvd_of_mod_eq_zero (by exact_mod_cast z))
        simp [b_is_prime_w0, hd0, hd0', this]
      have hlt : d < n := by
        have : d * 2 ≤ d * d := Nat.mul_le_mul_left d hd
        omega
      obtain ⟨en, ih⟩ := is_prime_loop2 n hn f (d + 1) (by omega) (by omega) (by omega) (by omega) fun e he => hno e (by omega)
      exact ⟨en, (loopW_go hc hb).trans ih⟩
    · refine ⟨[some (.fz (.int n)), some (.fz (.int d))], loopW_end ?_⟩
      have hlt : ¬ ((d : Int) * d ≤ n) := by
        intro z
        exact hdd (by exact_mod_cast z)
      have hm := mulOk_nat (d := d) (n := n) hdn hn
      simp [b_is_prime_c0, hm, hlt]
theorem is_prime_eq {n : Int} (h : Sm n.natAbs) : m_is_prime [.fz (.int n)] = .ok (.fz (.bl (decide (Pr n.toNat)))) [] := by
  by_cases h2 : n < 2
  · have : ¬ Pr n.toNat := fun z => by have := z.1; omega
    simp [m_is_prime, b_is_prime, h2, this]
  · obtain ⟨k, rfl⟩ : ∃ k : Nat, n = k := ⟨n.toNat, by omega⟩
    rw [Int.natAbs_natCast] at h
    rw [Int.toNat_natCast]
    by_cases hp : Pr k
    · obtain ⟨en, e⟩ := is_prime_loop2 k h (k + 1) 2 (by omega) (by omega) (by omega) (by omega) fun e he hee hd => by
        rcases hp.dvd hd with z | z
        · omega
        · subst z
          have : e * 2 ≤ e * e := Nat.mul_le_mul_left e he
          omega
      have e : loopW b_is_prime_c0 b_is_prime_w0 (k + 1) [some (.fz (.int k)), some (.fz (.int 2))] = _ := e
      have h3 : ¬ ((k : Int) < 2) := h2
      simp [m_is_prime, b_is_prime, h3, fuelI, e, hp]
    · have : ∃ d, 2 ≤ d ∧ d < k ∧ d ∣ k := by
        apply Classical.byContradiction
        intro hh
        exact hp ⟨by omega, fun d a b c => hh ⟨d, a, b, c⟩⟩
      obtain ⟨d, a, b, c⟩ := this
      obtain ⟨x, x1, x2, x3⟩ := small_div a b c
      obtain ⟨en, e⟩ := is_prime_loop k h (k + 1) 2 (by omega) (by omega) (by omega) (by omega) ⟨x, x1, x2, x3⟩
      have e : loopW b_is_prime_c0 b_is_prime_w0 (k + 1) [some (.fz (.int k)), some (.fz (.int 2))] = _ := e
      have h3 : ¬ ((k : Int) < 2) := h2
      simp [m_is_prime, b_is_prime, h3, fuelI, e, hp]
/-! the law's own: the same loop -/
theorem law_c0 : b__law_is_prime_c0 = b_is_prime_c0 := rfl
theorem law_w0 (a b : Int) : b__law_is_prime_w0 [some (.fz (.int a)), some (.fz (.int b))] = b_is_prime_w0 [some (.fz (.int a)), some (.fz (.int b))] := by
  by_cases hb : b = 0
  · simp [b__law_is_prime_w0, b_is_prime_w0, hb]
  · by_cases h : a.fmod b = 0
    · simp [b__law_is_prime_w0, b_is_prime_w0, hb, h]
    · simp [b__law_is_prime_w0, b_is_prime_w0, hb, h]
theorem law_loop (a : Int) : ∀ (f : Nat) (b : Int), loopW b__law_is_prime_c0 b__law_is_prime_w0 f [some (.fz (.int a)), some (.fz (.int b))] = loopW b_is_prime_c0 b_is_prime_w0 f [some (.fz (.int a)), some (.fz (.int b))]
  | 0, _ => rfl
  | f + 1, b => by
    rw [law_c0]
    by_cases hm : mulOk b b = true
    · by_cases hle : b * b ≤ a
      · have hc : b_is_prime_c0 [some (.fz (.int a)), some (.fz (.int b))] = .ok true [some (.fz (.int a)), some (.fz (.int b))] := by simp [b_is_prime_c0, hm, hle]
        simp only [loopW, hc, R.s, if_true, law_w0]
        by_cases hb : b = 0
        · simp [b_is_prime_w0, hb]
        · by_cases h : a.fmod b = 0
          · simp [b_is_prime_w0, hb, h]
          · simp [b_is_prime_w0, hb, h]
            exact law_loop a f (b + 1)
      · simp [loopW, b_is_prime_c0, hm, hle]
    · simp [loopW, b_is_prime_c0, hm]
theorem law_is_prime_eq {n : Int} (h : Sm n.natAbs) : m__law_is_prime [.fz (.int n)] = .ok (.fz (.bl (decide (Pr n.toNat)))) [] := by
  have e := is_prime_eq h
  by_cases h2 : n < 2
  · have : ¬ Pr n.toNat := fun z => by have := z.1; omega
    simp [m__law_is_prime, b__law_is_prime, h2, this]
  · rw [← e]
    simp [m__law_is_prime, b__law_is_prime, m_is_prime, b_is_prime, h2, law_loop]
/-- the next prime as a function -/
noncomputable def nextP (n : Nat) : Nat := Classical.choose (next_ex (max 2 n))
theorem nextP_pr (n : Nat) : Pr (nextP n) := (Classical.choose_spec (next_ex (max 2 n))).1
theorem nextP_ge (n : Nat) : n ≤ nextP n := Nat.le_trans (Nat.le_max_right 2 n) (Classical.choose_spec (next_ex (max 2 n))).2.1
theorem nextP_ge2 (n : Nat) : max 2 n ≤ nextP n := (Classical.choose_spec (next_ex (max 2 n))).2.1
theorem nextP_no (n : Nat) : ∀ q, max 2 n ≤ q → q < nextP n → ¬ Pr q := (Classical.choose_spec (next_ex (max 2 n))).2.2
/-- a prime from n on bounds it -/
theorem nextP_le {n p : Nat} (hp : Pr p) (h : n ≤ p) : nextP n ≤ p := by
  apply Classical.byContradiction
  intro z
  exact nextP_no n p (by have := hp.1; omega) (by omega) hp
theorem next_loop (n : Int) (p : Nat) (hp : Pr p) (hs : Sm p) : ∀ (f q : Nat), 2 ≤ q → q ≤ p → (∀ r, q ≤ r → r < p → ¬ Pr r) → p - q < f →
    loopW b__law_next_prime_c0 b__law_next_prime_w0 f [some (.fz (.int n)), some (.fz (.int q))] = .nx [some (.fz (.int n)), some (.fz (.int p))]
  | 0, q, _, _, _, hf => by omega
  | f + 1, q, h2, hq, hno, hf => by
    have e := law_is_prime_eq (n := (q : Int)) (by rw [Int.natAbs_natCast]; exact Nat.lt_of_le_of_lt hq hs)
    rw [Int.toNat_natCast] at e
    by_cases hqp : q = p
    · subst hqp
      exact loopW_end (by simp [b__law_next_prime_c0, e, hp])
    · have hnp := hno q (Nat.le_refl q) (by omega)
      refine (loopW_go (e := [some (.fz (.int n)), some (.fz (.int q))]) (e' := [some (.fz (.int n)), some (.fz (.int ((q + 1 : Nat) : Int)))]) ?_ ?_).trans (next_loop n p hp hs f (q + 1) (by omega) (by omega) (fun r h1 h2 => hno r (by omega) h2) (by omega))
      · simp [b__law_next_prime_c0, e, hnp]
      · simp [b__law_next_prime_w0]
theorem next_prime_eq {n : Int} (h0 : 0 ≤ n) (hs : Sm (nextP n.toNat)) : m__law_next_prime [.fz (.int n)] = .ok (.fz (.int (nextP n.toNat))) [] := by
  obtain ⟨k, rfl⟩ : ∃ k : Nat, n = k := ⟨n.toNat, by omega⟩
  rw [Int.toNat_natCast] at hs ⊢
  have e0 : (if (k : Int) > 2 then (k : Int) else 2) = ((max 2 k : Nat) : Int) := by
    split <;> omega
  have hb : nextP k ≤ fact (k + 2) + 1 := by
    obtain ⟨p, hp, h1, h2⟩ := prime_above (k + 2)
    exact Nat.le_trans (nextP_le hp (by omega)) h2
  have e := next_loop k (nextP k) (nextP_pr k) hs (fact (k + 2) + k + 4) (max 2 k) (by omega) (nextP_ge2 k) (nextP_no k) (by omega)
  simp [m__law_next_prime, b__law_next_prime, e0, fuelF, e]
end DL

set_option maxHeartbeats 1000000
namespace DL
open PySem L2
/-! ### primes by computing -/
def prGo (n : Nat) : Nat → Nat → Bool
  | 0, _ => false
  | f + 1, d => cond (Nat.blt n (d * d)) true (cond (Nat.beq (n % d) 0) false (prGo n f (d + 1)))
theorem prGo_ok {n : Nat} : ∀ {f d : Nat}, prGo n f d = true → ∀ e, d ≤ e → e * e ≤ n → ¬ e ∣ n
  | 0, d, h => by simp [prGo] at h
  | f + 1, d, h => by
    intro e he hee hd
    unfold prGo at h
    cases h1 : Nat.blt n (d * d) with
    | true =>
      have h1 : n < d * d := by simpa [Nat.blt_eq] using h1
      have := Nat.mul_le_mul he he
      omega
    | false =>
      rw [h1] at h
      cases h2 : Nat.beq (n % d) 0 with
      | true => rw [h2] at h; simp at h
      | false =>
        rw [h2] at h
        have h2 : n % d ≠ 0 := fun z => by rw [z] at h2; cases h2
        by_cases hed : e = d
        · subst hed; exact h2 (Nat.mod_eq_zero_of_dvd hd)
        · exact prGo_ok (f := f) (d := d + 1) (by simpa using h) e (by omega) hee hd
theorem pr_of {n : Nat} (f : Nat) (h2 : 2 ≤ n) (h : prGo n f 2 = true) : Pr n := ⟨h2, fun d a b c => by
  obtain ⟨e, e1, e2, e3⟩ := small_div a b c
  exact prGo_ok h e e1 e2 e3⟩
theorem not_pr {n d : Nat} (h1 : 2 ≤ d) (h2 : d < n) (h3 : n % d = 0) : ¬ Pr n := fun h => h.2 d h1 h2 (Nat.dvd_of_mod_eq_zero h3)
theorem pr2 : Pr 2 := pr_of 1 (by decide) (by decide)
theorem pr3 : Pr 3 := pr_of 1 (by decide) (by decide)
theorem pr5 : Pr 5 := pr_of 2 (by decide) (by decide)
theorem pr7 : Pr 7 := pr_of 2 (by decide) (by decide)
theorem pr_not0 : ¬ Pr 0 := fun h => absurd h.1 (by decide)
theorem pr_not1 : ¬ Pr 1 := fun h => absurd h.1 (by decide)
/-! ### loops with an invariant -/
theorem loopF_inv {set : T → Env → Option Env} {b : MS} (Inv : Env → Prop) : ∀ (ds : List D), (∀ d ∈ ds, ∀ e, Inv e → ∃ e1 e', set (.fz d) e = some e1 ∧ b e1 = .nx e' ∧ Inv e') → ∀ e, Inv e → ∃ e', loopF set b ds e = .nx e' ∧ Inv e'
  | [], _, e, h => ⟨e, rfl, h⟩
  | d :: ds, k, e, h => by
    obtain ⟨e1, e2, h1, h2, h3⟩ := k d (List.mem_cons_self ..) e h
    obtain ⟨e', h4, h5⟩ := loopF_inv Inv ds (fun x hx => k x (List.mem_cons_of_mem _ hx)) e2 h3
    exact ⟨e', (loopF_go h1 h2).trans h4, h5⟩
/-! ### pools -/
def IsPool (j : Nat) (t : T) : Prop := ∃ x n fl, t = poolT x n fl ∧ x.natAbs < 2 ^ 1048576 ∧ (fl = true → 0 ≤ x) ∧ 0 ≤ n ∧ n ≤ j
theorem pool_ex {c : Int} (hc : c.natAbs < 2 ^ 1048576) : ∃ t, m__law_pool [.fz (.int c)] = .ok t [] ∧ IsPool 0 t :=
  ⟨_, pool_eq c, c, 0, _, rfl, hc, fun h => by have := of_decide_eq_true h; omega, by decide, by decide⟩
theorem take_ex {j : Nat} {t : T} {l : Int} (hp : IsPool j t) (hl : 0 < l) (hs : sz l < 9000) (hj : j < 2 ^ 64) :
    ∃ r t', 0 ≤ r ∧ r < l ∧ IsPool (j + 1) t' ∧ m__law_take [t, .fz (.int l)] = .ok (.fz (.int r)) [t'] := by
  obtain ⟨x, n, fl, rfl, hx, h0, hn, hnj⟩ := hp
  have b := takeR_bd (x := x) (n := n + 1) (fl := fl) (l := l) hl
  have a := takeX_abs (x := x) (l := l) (fl := fl) (fun h => .inr (h0 h)) hl hx
  refine ⟨_, _, b.1, b.2, ⟨_, _, _, rfl, a.1, a.2, by omega, by push_cast; omega⟩, take_eq (by omega) hs (sz_mono (sz_le hx) (by decide)) (sz_le (k := 1000) ?_)⟩
  have : (2 : Nat) ^ 64 ≤ 2 ^ 1000 := Nat.pow_le_pow_right (by decide) (by decide)
  omega
/-- a small limit -/
theorem sz_small {l : Int} (h0 : 0 ≤ l) (h : l < 2 ^ 200) : sz l < 9000 := Nat.lt_of_le_of_lt (sz_le (k := 200) (by omega)) (by decide)
theorem cell_ex {ns : List Int} (hw : Wide ns) (k : Nat) : ∃ c, m__law_cell [.fz (scr ns), .fz (.int k)] = .ok (.fz (.int c)) [] ∧ c.natAbs < 2 ^ 1048576 := ⟨_, cell_eq ns k, cell_wide hw k⟩
/-! ### checked, is_zero -/
def b_checked : MS := fSeq (fIfS (fAnd (fTestB (fBin (gEq2 true) (fVar 0) (fC (.int 0)))) (fNot (fTest (fCall m_is_prime [] [none] (fCons (fVar 0) (fNil)))))) (fRaise 1 ["p"] (fCons (fVar 0) (fNil))) (fNext)) (fRet (fVar 0))
def m_checked : Mir := mirOf 1 [] b_checked
def b_is_zero : MS := fSeq (fIfS (fTestB (fBin (gEq2 false) (fCall m_checked [] [none] (fCons (fVar 1) (fNil))) (fC (.int 0)))) (fRet (fBin (gEq2 false) (fVar 0) (fC (.int 0)))) (fNext)) (fRet (fBin (gEq2 false) (fBin gMod (fVar 0) (fVar 1)) (fC (.int 0))))
def m_is_zero : Mir := mirOf 2 [] b_is_zero
/-- a characteristic -/
def Ch (p : Int) : Prop := p = 0 ∨ (0 < p ∧ Pr p.toNat)
theorem Ch.pr {p : Int} (h : Ch p) (h0 : p ≠ 0) : Pr p.toNat := h.elim (fun z => absurd z h0) fun z => z.2
theorem Ch.nonneg {p : Int} (h : Ch p) : 0 ≤ p := by rcases h with h | h <;> omega
theorem ch_nat {p : Nat} (h : Pr p) : Ch (p : Int) := .inr ⟨by have := h.1; omega, by rw [Int.toNat_natCast]; exact h⟩
theorem checked_eq {p : Int} (hs : Sm p.natAbs) (h : Ch p) : m_checked [.fz (.int p)] = .ok (.fz (.int p)) [] := by
  have e := is_prime_eq hs
  rcases h with h | ⟨h0, hp⟩
  · subst h; simp [m_checked, b_checked]
  · have : p ≠ 0 := by omega
    simp [m_checked, b_checked, this, e, hp]
theorem not_ch {p : Int} (h : ¬ Ch p) : p ≠ 0 ∧ ¬ Pr p.toNat := by
  refine ⟨fun z => h (.inl z), fun z => h (.inr ⟨?_, z⟩)⟩
  have := z.1; omega
theorem intF_of {i : Int} (h : i.natAbs < 2 ^ 1900) : intF i = true := by
  have := sz_le h
  unfold sz at this
  exact decide_eq_true (by omega)
theorem checked_ex {p : Int} (hs : p.natAbs < 2 ^ 1900) (h : ¬ Ch p) : m_checked [.fz (.int p)] = .ex ⟨1, some (["p"], [.int p])⟩ [] := by
  have hs' : Sm p.natAbs := Nat.lt_of_lt_of_le hs (Nat.pow_le_pow_right (by decide) (by decide))
  obtain ⟨h0, hp⟩ := not_ch h
  have e := is_prime_eq hs'
  have f := intF_of hs
  simp [m_checked, b_checked, h0, e, hp, fmtD, f]
/-- whether n is 0 in the characteristic p -/
def isZ (n p : Int) : Bool := if p = 0 then decide (n = 0) else decide (n.fmod p = 0)
theorem is_zero_eq {n p : Int} (hs : Sm p.natAbs) (h : Ch p) : m_is_zero [.fz (.int n), .fz (.int p)] = .ok (.fz (.bl (isZ n p))) [] := by
  have e := checked_eq hs h
  by_cases h0 : p = 0
  · subst h0; simp [m_is_zero, b_is_zero, e, isZ]
  · simp [m_is_zero, b_is_zero, e, h0, isZ]
theorem is_zero_ex {n p : Int} (hs : p.natAbs < 2 ^ 1900) (h : ¬ Ch p) : m_is_zero [.fz (.int n), .fz (.int p)] = .ex ⟨1, some (["p"], [.int p])⟩ [] := by
  have e := checked_ex hs h
  simp [m_is_zero, b_is_zero, e]
end DL

set_option maxHeartbeats 4000000
namespace PySem
open Sem (wp)
open AutoSeq1 (wpAny_loadPart')
theorem dl_enum_newT (l : Addr) (items : Array Value) (n : Nat) (dct : Option Addr) (sl : Array (Option Value)) :
    Meets (Builtin.«enumerate.__new__» ⟨[.type "enumerate", .ref l], []⟩) (fun _ R s => s.heap.get? l = some { cls := .type "tuple", dict := dct, data := .seq items n, slots := sl } ∧
      R (.ok (.ret (.ref (s.heap.push { cls := .type "tuple_iterator", data := .fields #[.ref l, .int 0 0] }).objs.size)))
        { s with heap := (s.heap.push { cls := .type "tuple_iterator", data := .fields #[.ref l, .int 0 0] }).push { cls := .type "enumerate", data := .fields #[.none, .bool false, .ref s.heap.objs.size, rawInt 0, .none, .none] } }) :=
  .of_wp fun prog w A R s h => by
    obtain ⟨hp, g, d, tk, os⟩ := s; obtain ⟨hl, h⟩ := h
    have hsub := sub_enumerate
    have hL : Heap.IsTuple (Shared.heap ⟨hp, g, d, tk, os⟩) l items := ⟨_, hl, rfl, n, rfl⟩
    wp_walk using wpAny_loadPart' hl
    refine wpAny_stack_any fun st => wpAny_pure ?_
    split
    · rename_i c _ _ _ _ _
      cases (c == Value.type "enumerate")
      · wp_walk using wpAny_loadPart' hl, wpAny_pyIter_tuple hL
        exact ⟨_, rfl, h⟩
      · wp_walk using wpAny_loadPart' hl, wpAny_pyIter_tuple hL
        exact ⟨_, rfl, h⟩
    · wp_walk using wpAny_loadPart' hl, wpAny_pyIter_tuple hL
      exact ⟨_, rfl, h⟩
theorem dl_call_enumT {prog : Program} {w : World} {A : Around} {E : Value → Shared → Prop} {s : Shared} {l : Addr} {items : Array Value} {Q : Value → Shared → Prop} (hL : s.heap.IsTuple l items)
    (h : ∀ h', IsEnum h' (s.heap.objs.size + 1) s.heap.objs.size 0 .none → h'.IsTupleIter s.heap.objs.size l 0 → h'.objs.size = s.heap.objs.size + 2 →
      (∀ b o, s.heap.get? b = some o → h'.get? b = some o) → Q (.ref (s.heap.objs.size + 1)) { s with heap := h' }) :
    wpAny (model prog w) A (call (.type "enumerate") [.ref l]) Q E s := by
  obtain ⟨⟨c, dct, dt, sl⟩, hl, hc, n, hd⟩ := hL
  replace hc : c = .type "tuple" := hc
  replace hd : dt = .seq items n := hd
  subst hc hd
  refine callType_new F.called_enumerate (by decide) (F.typeCall_enumerate_1 _) (F.newCall_enumerate_1 _) (fun obj => F.args_object_init_2 obj _) F.entry_enumerate_new
    (dl_enum_newT l items n dct sl) ⟨hl, ?_⟩
  have hz : (s.heap.push { cls := .type "tuple_iterator", data := .fields #[.ref l, .int 0 0] }).objs.size = s.heap.objs.size + 1 := Heap.size_push ..
  show _ ∧ _
  rw [hz]
  have he : IsEnum ((s.heap.push { cls := .type "tuple_iterator", data := .fields #[.ref l, .int 0 0] }).push
      { cls := .type "enumerate", data := .fields #[.none, .bool false, .ref s.heap.objs.size, rawInt 0, .none, .none] }) (s.heap.objs.size + 1) s.heap.objs.size 0 .none := by
    have := Heap.get?_push_size (s.heap.push { cls := .type "tuple_iterator", data := .fields #[.ref l, .int 0 0] })
      (o := { cls := .type "enumerate", data := .fields #[.none, .bool false, .ref s.heap.objs.size, rawInt 0, .none, .none] }) rfl
    rw [hz] at this; exact this
  refine ⟨⟨_, he, rfl⟩, h _ he ⟨_, Heap.get?_push_of_some _ (Heap.get?_push_size _ rfl), rfl, rfl⟩ (by rw [Heap.size_push, hz]) fun b o x => Heap.get?_push_of_some _ (Heap.get?_push_of_some _ x)⟩
end PySem
namespace DL
open PySem PySem.Spec PyProof.Rows L2
def IteT (K : PySem.W.Frag) (a : Addr) : It :=
  ⟨fun i H => ∃ (xs : List V) (x : V), SqT K H a xs ∧ xs[i]? = some x, fun i H v H' => ∃ T x, v = .ref T ∧ H T = none ∧ H' = upd H T (.tup [.int (i : Nat), x]) ∧ ∀ xs, SqT K H a xs → xs[i]? = some x, fun i H => ∃ xs : List V, SqT K H a xs ∧ xs.length ≤ i⟩
theorem tuple_inj {X : Cx} {pins : List (Addr × Obj)} {σ : L2.St} {H : Hp} {s : Shared} {a : Addr} {xs ys : List V} (I : Inv X pins σ H s) (h : SqT X.K H a xs) (h' : SqT X.K H a ys) : xs = ys := I.tuple_inj h h'
theorem turn_enumT {P : Program} {w : World} {K : PySem.W.Frag} {elts : List Expr} {kk : Nat} {tpos : Pos} (a e it : Addr) (hat : a ≠ it) (hae : e ≠ a) :
    Turn P w K (.Tuple elts kk tpos) (IteT K a) [e, it] e (fun i h => (∃ old, IsEnum h e it ((i : Nat) : Int) old) ∧ h.IsTupleIter it a i ∧ e ≠ it) where
  mem := by simp
  obj := fun i h st b hb => by
    obtain ⟨⟨old, he⟩, ⟨o, ho, hc, hd⟩, _⟩ := st
    have e' : b = e ∨ b = it := by simpa using hb
    rcases e' with z | z
    · rw [z]; exact ⟨_, he, fun v q => nomatch q⟩
    · rw [z]; exact ⟨o, ho, fun v q => by rw [hd] at q; cases q⟩
  keep := fun i h h' st k => let ⟨⟨old, he⟩, hi, hne⟩ := st; ⟨⟨old, k e (by simp) _ he⟩, hi.at fun o q => k it (by simp) o q, hne⟩
  item := by
    intro X hP hw hK hc i pins s σ H E I hf st hg
    subst hP hw hK
    obtain ⟨⟨old, he⟩, hit, hne⟩ := st
    obtain ⟨xs, x, hq, hx⟩ := hg
    obtain ⟨its, rv, p, hz⟩ := I.tuple hq
    obtain ⟨u, hu, ru⟩ := rv.get hx
    have hel : e < s.heap.objs.size := Heap.lt_size he
    have hil : it < s.heap.objs.size := by obtain ⟨_, q, _⟩ := hit; exact Heap.lt_size q
    have hlt : i < its.toArray.size := by
      have := (List.getElem?_eq_some_iff.mp hu).1
      simpa using this
    refine wpAny_pyNext_enum_itemD (Draws.tuple (A := X.A.in1) (I.ok.hd hc) it a hat its.toArray) he ⟨hit, p⟩ hlt hne (by simp [hne, hae]) fun x' h' tk hP ho hit' hT hsz hk => ?_
    have hxu : x' = u := by
      have h1 : its.toArray[i]? = some x' := hP
      have h2 : its.toArray[i]? = some u := by simpa using hu
      rw [h1] at h2
      exact Option.some.inj h2
    subst hxu
    refine ⟨_, rfl, wpAny_letOwnedTupleGo_enum (s := { s with heap := h', toks := tk + 1 }) ho fun h'' he' sb => ?_⟩
    have hT2 : h''.get? s.heap.objs.size = some { cls := .type "tuple", data := .seq #[.int i tk, x'] } := (sb.2 _ (Nat.ne_of_gt hel)).trans hT
    have new : ObjOk X.prog X.w (upd H s.heap.objs.size (.tup [.int (i : Nat), x])) h'' s.heap.objs.size (.tup [.int (i : Nat), x]) :=
      ⟨by show 2 ≤ sizeLine; decide, [.int i tk, x'], .cons ⟨_, rfl⟩ (.cons ru .nil), ⟨_, hT2, rfl, _, rfl⟩⟩
    have I1 : Inv X pins σ (upd H s.heap.objs.size (.tup [.int (i : Nat), x])) { s with heap := h'', toks := tk + 1 } :=
      I.turnedNew (ch := [e, it]) (fun b ob hb q => (sb.2 b (fun z => hb (by simp [z]))).trans (hk b ob (fun z => hb (by simp [z])) (fun z => hb (by simp [z])) q)) hf (Nat.le_refl _) new
    refine ⟨.ref s.heap.objs.size, _, I1, rfl, ⟨_, x, rfl, I.hok.fresh (Nat.le_refl _), rfl, fun ys hy => by rw [I.tuple_inj hy hq]; exact hx⟩, ⟨⟨x', ?_⟩, hit'.1.at fun o q => (sb.2 it (Ne.symm hne)).trans q, hne⟩, fun b hb => ?_⟩
    · have e1 : ((i + 1 : Nat) : Int) = (i : Int) + 1 := by omega
      rw [e1]; exact he'
    · have hb' : b < s.heap.objs.size := by
        have e' : b = e ∨ b = it := by simpa using hb
        rcases e' with z | z
        · rw [z]; exact hel
        · rw [z]; exact hil
      rw [upd_ne (Nat.ne_of_lt hb')]
      exact (hf b hb).1
  done := by
    intro X hP hw hK hc i pins s σ H E I hf st hg
    subst hP hw hK
    obtain ⟨⟨old, he⟩, hit, hne⟩ := st
    obtain ⟨xs, hq, hx⟩ := hg
    obtain ⟨its, rv, p, hz⟩ := I.tuple hq
    obtain ⟨f0, f1, f2, f3, f4, f5⟩ := hf it (by simp)
    have hl := rv.length
    have D : Draws X.prog X.w X.A.in1 it [it, a] i (fun j v => its.toArray[j]? = some v) (fun j h => j = i ∧ h.IsTupleIter it a j ∧ h.IsTuple a its.toArray) :=
      ⟨fun _ _ st => let ⟨o, ho, _⟩ := st.2.1; ⟨o, ho⟩, fun _ _ _ st hk => ⟨st.1, st.2.1.at fun o e => hk it (by simp) o e, st.2.2.at fun o e => hk a (by simp) o e⟩,
        fun j s Q E hj st hQ => absurd st.1 (Nat.ne_of_lt hj), fun s Q E st hE => wpAny_nextOf_tuple_end (I.ok.hd hc) st.2.1 st.2.2 (by simp; omega) hE⟩
    exact wpAny_pyNext_enum_endD D he ⟨rfl, hit, p⟩ fun h' eb => ⟨rfl, I.turned (t' := s.toks) (fun b o hb q => eb b o hb q) f0 f1 f3 f4 f5⟩
  self := fun A i s Q E st h => let ⟨⟨_, he⟩, _⟩ := st; wpAny_pyIter_enum he h
def iEnumT (K : PySem.W.Frag) (ta : TA) : TI := fun σ H R => ta σ H fun vs H1 => ∃ a xs, vs = [.ref a] ∧ SqT K H1 a xs ∧ R (IteT K a) H1
theorem pi_enumT {X : Cx} {e : Expr} {ta : TA} {p pos tpos : Pos} {elts : List Expr} {kk : Nat} (hg : Gl X "enumerate") (hm : X.mg "enumerate" = none) (ha : PA X [e] ta) (hs : starEach [e] X.env = [(false, eval e X.env)] := by rfl) :
    PI X (.Tuple elts kk tpos) (.Call (.Name "enumerate" p) [e] [] pos) (iEnumT X.K ta) := by
  refine ⟨fun pins s σ H R I h => ?_⟩
  refine Call_ (ld_blt I hg hm boot_enumerate (PyProof.Rows.callWith_type1 (thn (ha.run pos pins s σ H _ I h) fun us s1 ⟨vs, H1, I1, r1, q1⟩ => ?_) hs rfl))
  obtain ⟨a, xs, ex, hq, q⟩ := q1
  subst ex
  cases r1 with
  | cons r rr =>
    cases rr
    cases r
    obtain ⟨its, rv, p', hz⟩ := I1.tuple hq
    have hal : a < s1.heap.objs.size := by obtain ⟨_, e, _⟩ := p'; exact Heap.lt_size e
    refine dl_call_enumT p' fun h' he hit hsz hk => wpAny_pyIter_enum he ?_
    have I2 : Inv X pins σ H1 { s1 with heap := h' } := I1.kept (t' := s1.toks) hk
    refine ⟨s1.heap.objs.size + 1, [s1.heap.objs.size + 1, s1.heap.objs.size], _, _, H1, rfl, I2, turn_enumT a (s1.heap.objs.size + 1) s1.heap.objs.size (Nat.ne_of_lt hal) (Nat.ne_of_gt (Nat.lt_succ_of_lt hal)), ⟨⟨.none, he⟩, hit, Nat.succ_ne_self _⟩, fun b hb => ?_, q⟩
    have e' : b = s1.heap.objs.size + 1 ∨ b = s1.heap.objs.size := by simpa using hb
    have hle : s1.heap.objs.size ≤ b := by
      rcases e' with z | z
      · rw [z]; exact Nat.le_add_right _ _
      · rw [z]; exact Nat.le_refl _
    exact I1.fpOk hle (I1.hok.fresh hle)
end DL

set_option maxHeartbeats 4000000
namespace DL
open PySem PySem.Spec PyProof.Rows L2
/-! ### enumerate -/
@[simp] def enumL : Nat → List D → List D
  | _, [] => []
  | k, x :: xs => .tup [.int (k : Nat), x] :: enumL (k + 1) xs
theorem enumL_len : ∀ (k : Nat) (xs : List D), (enumL k xs).length = xs.length
  | _, [] => rfl
  | k, _ :: xs => congrArg (· + 1) (enumL_len (k + 1) xs)
theorem enumL_get : ∀ {k i : Nat} {xs : List D} {d : D}, (enumL k xs)[i]? = some d → ∃ x, xs[i]? = some x ∧ d = .tup [.int ((k + i : Nat) : Int), x]
  | k, i, [], d, h => by simp at h
  | k, 0, x :: xs, d, h => ⟨x, rfl, (Option.some.inj h).symm⟩
  | k, i + 1, x :: xs, d, h => by
    obtain ⟨y, h1, h2⟩ := enumL_get (k := k + 1) (i := i) (xs := xs) h
    exact ⟨y, h1, by rw [h2]; congr 3; omega⟩
@[simp] def enumD : List D → Option (List D)
  | [.lst xs] => some (enumL 0 xs)
  | [.tup xs] => some (enumL 0 xs)
  | _ => none
section
variable {X : Cx} {G : Sg} {W : WX} {Z : Wd} {a b c e : Expr} {es : List Expr} {fa fb fc : M T} {fs : M (List T)} {src : List (Option Nat)} {pos : Pos}
theorem dwalk_enum {v : V} {ds : List D} {p : Addr} (ev : v = .ref p) : DWalk Z (Ite Z.K p) [(v, .fz (.lst ds))] (enumL 0 ds) where
  go := fun i H rs hi ro => by
    obtain ⟨q, vs, e, s, r⟩ := ro.fz
    rw [ev] at e; cases e
    rw [enumL_len] at hi
    obtain ⟨w, ew, _⟩ := r.get (List.getElem?_eq_getElem hi)
    exact ⟨vs, w, s, ew⟩
  stop := fun H rs ro => by
    obtain ⟨q, vs, e, s, r⟩ := ro.fz
    rw [ev] at e; cases e
    exact ⟨vs, s, by rw [r.length, enumL_len]; exact Nat.le_refl _⟩
  yld := fun i H H' x rs d hd ro y => by
    obtain ⟨dx, h1, rfl⟩ := enumL_get hd
    obtain ⟨tt, z, rfl, nT, rfl, hz⟩ := y
    have rk : Roots Z H ((z, .fz dx) :: (v, .fz (.lst ds)) :: rs) := Roots.kid (Roots.dup ro) fun F r s => by
      obtain ⟨q, vs, e, sq, rp⟩ := r
      rw [ev] at e; cases e
      obtain ⟨w, ew, rw'⟩ := rp.get h1
      have := hz vs (s.seq sq)
      rw [ew] at this
      cases this
      exact rw'
    have r2 : Roots Z H ([V.int ((0 + i : Nat) : Int), z].zip ([D.int ((0 + i : Nat) : Int), dx].map T.fz) ++ ((v, .fz (.lst ds)) :: rs)) := Roots.add rk fun _ => rfl
    have r3 := Roots.newT (ds := [D.int ((0 + i : Nat) : Int), dx]) rfl r2 nT
    simpa using r3
theorem dwalk_enumT {v : V} {ds : List D} {p : Addr} (ev : v = .ref p) : DWalk Z (IteT Z.K p) [(v, .fz (.tup ds))] (enumL 0 ds) where
  go := fun i H rs hi ro => by
    obtain ⟨q, vs, e, s, r⟩ := ro.fz
    rw [ev] at e; cases e
    rw [enumL_len] at hi
    obtain ⟨w, ew, _⟩ := r.get (List.getElem?_eq_getElem hi)
    exact ⟨vs, w, s, ew⟩
  stop := fun H rs ro => by
    obtain ⟨q, vs, e, s, r⟩ := ro.fz
    rw [ev] at e; cases e
    exact ⟨vs, s, by rw [r.length, enumL_len]; exact Nat.le_refl _⟩
  yld := fun i H H' x rs d hd ro y => by
    obtain ⟨dx, h1, rfl⟩ := enumL_get hd
    obtain ⟨tt, z, rfl, nT, rfl, hz⟩ := y
    have rk : Roots Z H ((z, .fz dx) :: (v, .fz (.tup ds)) :: rs) := Roots.kid (Roots.dup ro) fun F r s => by
      obtain ⟨q, vs, e, sq, rp⟩ := r
      rw [ev] at e; cases e
      obtain ⟨w, ew, rw'⟩ := rp.get h1
      have := hz vs (same_t s sq)
      rw [ew] at this
      cases this
      exact rw'
    have r2 : Roots Z H ([V.int ((0 + i : Nat) : Int), z].zip ([D.int ((0 + i : Nat) : Int), dx].map T.fz) ++ ((v, .fz (.tup ds)) :: rs)) := Roots.add rk fun _ => rfl
    have r3 := Roots.newT (ds := [D.int ((0 + i : Nat) : Int), dx]) rfl r2 nT
    simpa using r3
theorem di_enum {p tpos : Pos} {elts : List Expr} {kk : Nat} (hg : Gl X "enumerate") (hm : X.mg "enumerate" = none) (ha : DA X G W [a] [none] fs) (hs : starEach [a] X.env = [(false, eval a X.env)] := by rfl) :
    DI X G W (.Tuple elts kk tpos) (.Call (.Name "enumerate" p) [a] [] pos) (iArgs enumD fs) := fun gd =>
  ((pi_enum hg hm (ha gd) hs).or (pi_enumT hg hm (ha gd) hs)).imp fun σ H R ⟨env, ex, r, h⟩ => by
    have h : Aft (XOk G W σ ex) _ ((fs env).bind fun ts e => ofL e (enumD (frzs ts))) := h
    cases e1 : fs env with
    | no => rw [e1] at h; exact h.elim
    | ex x e => rw [e1] at h; exact .inl ⟨env, ex, r, by rw [e1]; exact h⟩
    | ok ts e =>
      rw [e1] at h
      have h : Aft (XOk G W σ ex) _ (ofL e (enumD (frzs ts))) := h
      cases e2 : frzs ts with
      | nil => rw [e2] at h; exact h.elim
      | cons d0 tl =>
        rw [e2] at h
        cases tl with
        | cons _ _ => cases d0 <;> exact h.elim
        | nil =>
          cases d0 with
          | lst xs =>
            refine .inl ⟨env, ex, r, ?_⟩
            rw [e1]
            intro H2 vs hl hs hsrc r2
            have ro := Roots.freezes r2.out
            rw [e2] at ro
            obtain ⟨v, rfl, ro'⟩ := ro.args1 (by rw [hl, ← frzs_len, e2])
            obtain ⟨p1, vs, ee, s1, _⟩ := ro'.fz
            subst ee
            rw [← gd.hK]
            exact ⟨p1, vs, rfl, s1, h H2 _ _ (dwalk_enum rfl) (r2.back1 ro')⟩
          | tup xs =>
            refine .inr ⟨env, ex, r, ?_⟩
            rw [e1]
            intro H2 vs hl hs hsrc r2
            have ro := Roots.freezes r2.out
            rw [e2] at ro
            obtain ⟨v, rfl, ro'⟩ := ro.args1 (by rw [hl, ← frzs_len, e2])
            obtain ⟨p1, vs, ee, s1, _⟩ := ro'.fz
            subst ee
            rw [← gd.hK]
            exact ⟨p1, vs, rfl, s1, h H2 _ _ (dwalk_enumT rfl) (r2.back1 ro')⟩
          | _ => exact h.elim
end
end DL

set_option maxHeartbeats 4000000
namespace DL
open PySem PySem.Spec PyProof.Rows L2
/-! ### slices -/
def rdO (G : Sg) (W : WX) (f : M (Option Int)) : TO := fun σ H Q => ∃ env ex, Rel G H σ env ex ∧ Aft (XOk G W σ ex) (fun o e => ∀ H', Rel G H' σ e ex → Q o H') (f env)
def DO (X : Cx) (G : Sg) (W : WX) (e : Option Expr) (f : M (Option Int)) : Prop := Good X G W → PO X e (rdO G W f)
theorem _root_.L2.PO.imp {X : Cx} {e : Option Expr} {t u : TO} (h : PO X e t) (k : ∀ σ H Q, u σ H Q → t σ H Q) : PO X e u := ⟨fun pins s σ H Q I q => h.run pins s σ H Q I (k σ H Q q)⟩
@[simp] def fNoP (env : Env) : R (Option Int) := .ok none env
@[simp] def fPt (f : M T) (env : Env) : R (Option Int) := (f env).bind fun t e => match t with | .fz (.int i) => .ok (some i) e | _ => .no
@[simp] def cutD (xs : List D) (lo hi : Option Int) : List D := (xs.drop (HT.sIx xs.length 0 lo)).take (HT.sIx xs.length xs.length hi - HT.sIx xs.length 0 lo)
@[simp] def gSl (lo hi : Option Int) : D → Option T
  | .lst ds => some (.lst ((cutD ds lo hi).map T.fz))
  | .tup ds => some (.fz (.tup (cutD ds lo hi)))
  | .str z => if z.length ≤ sizeLine then some (.fz (.str (Txt.slice z lo hi))) else none
  | _ => none
@[simp] def fSl (fa : M T) (lo hi : M (Option Int)) (env : Env) : R T := (fa env).bind fun t e1 => (lo e1).bind fun l e2 => (hi e2).bind fun h e3 => ofO e3 (gSl l h (frz t))
section
variable {X : Cx} {G : Sg} {W : WX} {Z : Wd} {a b c e : Expr} {es : List Expr} {fa fb fc : M T} {fs : M (List T)} {src : List (Option Nat)} {pos p2 : Pos} {lo hi : Option Expr} {fl fh : M (Option Int)}
theorem do_none : DO X G W none fNoP := fun gd => po_none.imp fun σ H Q ⟨env, ex, r, h⟩ => h H r
theorem do_some (h : DE X G W a fa) : DO X G W (some a) (fPt fa) := fun gd => (po_some (h gd)).imp fun σ H Q ⟨env, ex, r, h⟩ => rd_then r h fun H' v t e r' h' => by
  split at h'
  · rename_i i
    have ev : v = .int i := r'.out1.fz
    exact ⟨i, ev, h' H' r'.drop⟩
  · exact h'.elim
theorem Rps.take : ∀ {F : Hp} {vs : List V} {ds : List D} (n : Nat), Rps Z F vs ds → Rps Z F (vs.take n) (ds.take n)
  | F, vs, ds, 0, h => by simp; trivial
  | F, [], [], n + 1, h => trivial
  | F, v :: vs, d :: ds, n + 1, h => ⟨h.1, Rps.take n h.2⟩
  | F, [], _ :: _, _, h => h.elim
  | F, _ :: _, [], _, h => h.elim
theorem Rps.drop : ∀ {F : Hp} {vs : List V} {ds : List D} (n : Nat), Rps Z F vs ds → Rps Z F (vs.drop n) (ds.drop n)
  | F, vs, ds, 0, h => by simpa using h
  | F, [], [], n + 1, h => trivial
  | F, v :: vs, d :: ds, n + 1, h => Rps.drop n h.2
  | F, [], _ :: _, _, h => h.elim
  | F, _ :: _, [], _, h => h.elim
theorem Rps.cut {F : Hp} {vs : List V} {ds : List D} (lo hi : Option Int) (h : Rps Z F vs ds) : Rps Z F (cutV vs lo hi) (cutD ds lo hi) := by
  unfold cutV cutD
  rw [h.length]
  exact Rps.take _ (Rps.drop _ h)
/-- the items of a frozen list or tuple, and any choice of them -/
theorem own_all {F H : Hp} : ∀ {vs : List V} {ds : List D}, Rps Z F vs ds → OwnR Z F H (vs.zip (ds.map T.fz)) []
  | [], [], _ => rfl
  | v :: vs, d :: ds, h => ⟨[], [], ⟨h.1, rfl⟩, own_all h.2, rfl⟩
  | [], _ :: _, h => h.elim
  | _ :: _, [], h => h.elim
theorem Roots.pickL {H : Hp} {v : V} {ds : List D} {rs : List (V × T)} (h : Roots Z H ((v, .fz (.lst ds)) :: rs)) : ∃ p vs, v = .ref p ∧ SqL Z.K H p vs ∧ vs.length = ds.length ∧ ∀ (vs' : List V) (ds' : List D), (∀ F, Rps Z F vs ds → Rps Z F vs' ds') → vs'.length = ds'.length ∧ Roots Z H (vs'.zip (ds'.map T.fz) ++ rs) := by
  obtain ⟨F, f, s, ⟨f1, f2, ⟨⟨p, vs, e, sq, r⟩, e1⟩, o2, rfl⟩, n, q⟩ := h
  subst e1
  refine ⟨p, vs, e, s.seq sq, r.length, fun vs' ds' k => ⟨(k F r).length, F, f2, s, ?_, n, q⟩⟩
  exact (own_all (k F r)).append o2
theorem Roots.pickT {H : Hp} {v : V} {ds : List D} {rs : List (V × T)} (h : Roots Z H ((v, .fz (.tup ds)) :: rs)) : ∃ p vs, v = .ref p ∧ SqT Z.K H p vs ∧ vs.length = ds.length ∧ ∀ (vs' : List V) (ds' : List D), (∀ F, Rps Z F vs ds → Rps Z F vs' ds') → vs'.length = ds'.length ∧ Roots Z H (vs'.zip (ds'.map T.fz) ++ rs) := by
  obtain ⟨F, f, s, ⟨f1, f2, ⟨⟨p, vs, e, sq, r⟩, e1⟩, o2, rfl⟩, n, q⟩ := h
  subst e1
  refine ⟨p, vs, e, same_t s sq, r.length, fun vs' ds' k => ⟨(k F r).length, F, f2, s, ?_, n, q⟩⟩
  exact (own_all (k F r)).append o2
theorem gSl_ok {H : Hp} {v : V} {d : D} {t : T} {lo hi : Option Int} {rs : List (V × T)} {Q : VK} (ro : Roots Z H ((v, .fz d) :: rs)) (h : gSl lo hi d = some t) (k : ∀ H' v, Roots Z H' ((v, t) :: rs) → Q v H') : rSlL Z.K v lo hi H Q ∨ (rSlA Z.K v lo hi H Q ∨ C8.rSlX v lo hi H Q) := by
  unfold gSl at h
  split at h
  · rename_i ds
    cases h
    obtain ⟨a, vs, ev, sq, hl, pk⟩ := ro.pickL
    obtain ⟨h1, h2⟩ := pk (cutV vs lo hi) (cutD ds lo hi) fun F r => Rps.cut lo hi r
    exact .inl ⟨a, vs, ev, sq, fun p np => k _ _ (Roots.newL (by rw [List.length_map]; exact h1) h2 np)⟩
  · rename_i ds
    cases h
    obtain ⟨a, vs, ev, sq, hl, pk⟩ := ro.pickT
    obtain ⟨h1, h2⟩ := pk (cutV vs lo hi) (cutD ds lo hi) fun F r => Rps.cut lo hi r
    refine .inr (.inl ⟨a, vs, ev, sq, fun hw => ?_, fun _ p np => k _ _ (Roots.newT h1 h2 np)⟩)
    have : cutD ds lo hi = ds := by
      unfold cutD
      rw [hl] at hw
      rw [hw.1, hw.2]
      simp
    rw [this] at k
    rw [← ev]
    exact k H v ro
  · split at h
    · rename_i z hz
      cases h
      exact .inr (.inr ⟨z, ro.fz, hz, k H _ (Roots.add ro.drop fun _ => rfl)⟩)
    · cases h
  · cases h
theorem de_slice (ha : DE X G W a fa) (hl : DO X G W lo fl) (hh : DO X G W hi fh) : DE X G W (.Subscript a (.Slice lo hi none p2) pos) (fSl fa fl fh) := fun gd =>
  (pe_slice (sl_list.or (sl_tupA.or C8.sl_txt)) (ha gd) (hl gd) (hh gd)).imp fun σ H Q ⟨env, ex, r, h⟩ => rd_then r h fun H1 v t e1 r1 h1 => by
    have hb := aft_bind h1
    refine ⟨e1, (v, t) :: ex, r1, aft_more (l := [(v, t)]) hb fun l e2 p2 H2 r2 => ?_⟩
    refine ⟨e2, (v, t) :: ex, r2, aft_more (l := [(v, t)]) (aft_bind p2) fun u e3 p3 H3 r3 => ?_⟩
    cases eg : gSl l u (frz t) with
    | none => rw [eg] at p3; exact p3.elim
    | some t' =>
      rw [eg] at p3
      rw [← gd.hK]
      exact gSl_ok r3.freeze.out1 eg fun H' w q => p3 H' w (r3.back1 q)
end
end DL

set_option maxHeartbeats 4000000
namespace DL
open PySem PySem.Spec PyProof.Rows L2
/-! ### t[::-1] of a tuple -/
section
variable {prog : Program} {w : World} {A : Around} {E : Value → Shared → Prop} {s : Shared}
theorem pick_rev (xs : Array Value) : ((List.range xs.size).filterMap fun (m : Nat) => xs[(((xs.size : Int) - 1) + (m : Int) * (-1)).toNat]?).toArray = xs.toList.reverse.toArray := by
  have e : (fun (m : Nat) => xs[(((xs.size : Int) - 1) + (m : Int) * (-1)).toNat]?) = fun (m : Nat) => xs.toList[(((xs.size : Int) - 1) + (m : Int) * (-1)).toNat]? := by
    funext m; simp
  rw [e]
  congr 1
  have key : ∀ (l : List Value), (List.range l.length).filterMap (fun (m : Nat) => l[(((l.length : Int) - 1) + (m : Int) * (-1)).toNat]?) = l.reverse := by
    intro l
    apply List.ext_getElem?
    intro i
    have fm : ∀ (f : Nat → Option Value) (g : Nat → Value) (r : List Nat), (∀ m ∈ r, f m = some (g m)) → r.filterMap f = r.map g := by
      intro f g r
      induction r with
      | nil => intro _; rfl
      | cons x r ih =>
        intro hh
        rw [List.filterMap_cons, hh x (List.mem_cons_self ..), List.map_cons, ih fun m hm => hh m (List.mem_cons_of_mem _ hm)]
    have all : (List.range l.length).filterMap (fun (m : Nat) => l[(((l.length : Int) - 1) + (m : Int) * (-1)).toNat]?) = (List.range l.length).map (fun (m : Nat) => l.getD (l.length - 1 - m) .none) := by
      apply fm
      intro m hm
      have hm := List.mem_range.mp hm
      have e1 : (((l.length : Int) - 1) + (m : Int) * (-1)).toNat = l.length - 1 - m := by omega
      rw [e1, List.getElem?_eq_getElem (by omega)]
      simp [List.getD_eq_getElem?_getD, List.getElem?_eq_getElem (show l.length - 1 - m < l.length by omega)]
    rw [all]
    by_cases hi : i < l.length
    · rw [List.getElem?_map, List.getElem?_range hi, List.getElem?_reverse hi]
      simp [List.getD_eq_getElem?_getD, List.getElem?_eq_getElem (show l.length - 1 - i < l.length by omega)]
    · rw [List.getElem?_eq_none (by simp; omega), List.getElem?_eq_none (by simp; omega)]
  have := key xs.toList
  simpa using this
theorem rev_applied {sl : Addr} {vk : Value} {n : Nat} {Q : Int × Int × Nat → Shared → Prop} (hs : s.heap.IsSliceOf sl .none .none vk) (pk : IsPart vk (some (-1)))
    (h : Q ((n : Int) - 1, -1, n) s) : wpAny (model prog w) A (Builtin.Slice.sliceApplied (.ref sl) (pure (n : Int))) Q E s := by
  obtain ⟨os, hos, hcs, hds⟩ := id hs
  unfold Builtin.Slice.sliceApplied Builtin.Slice.sliceFields
  refine wpAny_bind (wpAny_bind (wpAny_field hos hds (x := .none) rfl (wpAny_bind (wpAny_field hos hds (x := .none) rfl (wpAny_bind (wpAny_field hos hds (x := vk) rfl (wpAny_pure ?_)))))))
  refine wpAny_bind (HT.slicePart_ pk ?_)
  show wpAny _ _ (if ((-1 : Int) == 0) = true then _ else _) _ _ s
  rw [if_neg (by decide)]
  refine wpAny_bind (HT.slicePart_ .none (wpAny_bind (HT.slicePart_ .none (wpAny_bind (wpAny_pure ?_)))))
  have e1 : Builtin.Slice.sliceAdjust none none (-1) (n : Int) = ((n : Int) - 1, -1) := rfl
  show wpAny _ _ (match Builtin.Slice.sliceAdjust none none (-1) (n : Int) with | (lo, hi) => pure (lo, (-1 : Int), Builtin.Slice.slicePlaces lo hi (-1))) _ _ s
  rw [e1]
  have e2 : Builtin.Slice.slicePlaces ((n : Int) - 1) (-1) (-1) = n := by
    unfold Builtin.Slice.slicePlaces
    rw [if_neg (by decide)]
    have e9 : (-(-1 : Int)) = 1 := rfl
    rw [e9, Int.ediv_one]
    split <;> omega
  show wpAny _ _ (pure ((n : Int) - 1, (-1 : Int), Builtin.Slice.slicePlaces ((n : Int) - 1) (-1) (-1))) _ _ s
  rw [e2]
  exact wpAny_pure h
theorem getItem_rev {t sl : Addr} {items : Array Value} {vk : Value} {Q : Value → Shared → Prop} (ht : IsTup s.heap t items) (hs : s.heap.IsSliceOf sl .none .none vk) (pk : IsPart vk (some (-1)))
    (h : Q (.ref s.heap.objs.size) { s with heap := s.heap.push { cls := .type "tuple", data := .seq items.toList.reverse.toArray } }) (hsz : items.size ≤ sizeLine) : wpAny (model prog w) A (getItem (.ref t) (.ref sl)) Q E s := by
  have htake : sizeOk (.seq items.toList.reverse.toArray) := by
    show items.toList.reverse.toArray.size ≤ sizeLine
    rw [List.size_toArray, List.length_reverse, Array.length_toList]
    exact hsz
  obtain ⟨os, hos, hcs, hds⟩ := id hs
  have hTs : s.TypeIs (.ref sl) "slice" := ⟨os, hos, hcs⟩
  unfold getItem
  try with_reducible refine wpAny_holding ?_
  first | refine wpAny_bind (wpAny_pure ?_) | skip
  refine wpAny_bind (wpAny_sequenceKey ht.typeIs (by decide) ?_)
  refine wpAny_bind (wpAny_callSpecial?_slot (name := Str.ofString "__getitem__") ht.typeIs PyProof.Rows.slot_tuple_getitem
    (wpAny_call_entry PyProof.Rows.slot_tuple_getitem ht.typeIs PyProof.Rows.entry_tuple_getitem ?_ (PyProof.Rows.args_tuple_getitem _ _)))
  show wpAny _ _ (Builtin.Tuple.tupleItemsOf (.ref t) >>= _) _ _ s
  refine wpAny_bind (PyProof.Rows.tupleItemsOf_ ht ?_)
  refine wpAny_bind (wpAny_typeOf hTs ?_)
  rw [if_pos (by decide)]
  refine wpAny_bind (rev_applied hs pk ?_)
  show wpAny _ _ (if (((items.size : Int) - 1) == 0 && (-1 : Int) == 1 && items.size == items.size) = true then _ else _) _ _ s
  rw [if_neg (by simp), pick_rev]
  first
    | exact wpAny_bind (m := Builtin.Tuple.tupleExact _) (wpAny_newObj_type (wpAny_pure ⟨_, rfl, wpAny_pure h⟩) htake)
    | exact wpAny_bind (m := Builtin.Tuple.tupleExact _) (wpAny_newObj_type (wpAny_bind (wpAny_pure (wpAny_pure ⟨_, rfl, wpAny_pure h⟩))) htake)
    | exact wpAny_bind (wpAny_bind (m := Builtin.Tuple.tupleExact _) (wpAny_newObj_type (wpAny_pure (wpAny_pure ⟨_, rfl, wpAny_pure h⟩)) htake))
    | exact wpAny_bind (wpAny_bind (m := Builtin.Tuple.tupleExact _) (wpAny_newObj_type (wpAny_pure ⟨_, rfl, wpAny_pure h⟩) htake))
end
section
variable {X : Cx} {G : Sg} {W : WX} {Z : Wd} {a b c e : Expr} {es : List Expr} {fa fb fc : M T} {fs : M (List T)} {src : List (Option Nat)} {pos p p1 p2 p3 : Pos} {k : Nat}
def tRevT (K : PySem.W.Frag) (te : TE) : TE := fun σ H Q => te σ H fun x H1 => ∃ a xs, x = .ref a ∧ SqT K H1 a xs ∧ ∀ p, H1 p = none → Q (.ref p) (upd H1 p (.tup xs.reverse))
theorem pe_revT {te : TE} (he : PE X e te) : PE X (.Subscript e (.Slice none none (some (.UnaryOp .USub (.Constant (.int 1) k p1) p2)) p3) pos) (tRevT X.K te) := by
  refine ⟨fun pins s σ H Q I h => ?_⟩
  refine Subscript_ (thn (he.run pins s σ H _ I h) fun v s1 ⟨x, H1, I1, r1, q1⟩ => ?_)
  obtain ⟨a, xs, ex, hx, q⟩ := q1
  subst ex
  cases r1
  have hst : PO X (some (.UnaryOp .USub (.Constant (.int 1) k p1) p2)) (L2.tPart (tUn (rU fun i => .int (-i)) (tC (.int 1)))) := po_some (pe_un un_neg pe_int)
  refine wpAny_Slice (thn (po_none.run pins s1 σ H1 (fun o H2 => o = none ∧ H2 = H1) I1 ⟨rfl, rfl⟩) fun vl s2 ⟨l, H2, I2, pl, el, e2⟩ => ?_)
  subst el e2
  refine thn (po_none.run pins s2 σ H2 (fun o H3 => o = none ∧ H3 = H2) I2 ⟨rfl, rfl⟩) fun vu s3 ⟨u, H3, I3, pu, eu, e3⟩ => ?_
  subst eu e3
  refine thn (hst.run pins s3 σ H3 (fun o H4 => o = some (-1) ∧ H4 = H3) I3 ⟨1, rfl, -1, rfl, rfl, rfl⟩) fun vs s4 ⟨o, H4, I4, ps, eo, e4⟩ => ?_
  subst eo e4
  cases pl
  cases pu
  have I5 : Inv X pins σ H4 { s4 with heap := s4.heap.push { cls := .type "slice", data := .fields #[.none, .none, vs] } } := I4.kept (t' := s4.toks) fun b ob q => Heap.get?_push_of_some _ q
  obtain ⟨its, r, ht, hz⟩ := I5.tuple hx
  have hlen := r.length
  show wpAny (model X.prog X.w) X.A (subscriptTail e (.Slice none none (some (.UnaryOp .USub (.Constant (.int 1) k p1) p2)) p3) (.ref a) (.ref s4.heap.objs.size)) (EP X pins σ Q) X.xe { s4 with heap := s4.heap.push { cls := .type "slice", data := .fields #[.none, .none, vs] } }
  refine tail_any (ops := [.ref a, .ref s4.heap.objs.size]) ht.typeIs (PyProof.Rows.slot_tuple_getitem.lookup) ?_ (by with_unfolding_all rfl)
  refine getItem_rev ht (Heap.IsSliceOf.new _ .none .none vs) ps ?_ (by rw [List.size_toArray]; omega)
  refine ⟨.ref _, _, I5.laid (t' := s4.toks) (o := .tup xs.reverse) (fun b ob q => Heap.get?_push_of_some _ q) (Nat.le_refl _) ?_, rfl, q _ (I5.hok.fresh (Nat.le_refl _))⟩
  exact ⟨by rw [List.length_reverse]; exact hz, _, r.reverse, IsTup.new _ _⟩
theorem Rps.rev : ∀ {F : Hp} {vs : List V} {ds : List D}, Rps Z F vs ds → Rps Z F vs.reverse ds.reverse
  | F, [], [], h => trivial
  | F, v :: vs, d :: ds, h => by
    rw [List.reverse_cons, List.reverse_cons]
    exact Rps.append (Rps.rev h.2) ⟨h.1, trivial⟩
  | F, [], _ :: _, h => h.elim
  | F, _ :: _, [], h => h.elim
@[simp] def gRev : D → Option T
  | .lst ds => some (.lst (ds.reverse.map T.fz))
  | .tup ds => some (.fz (.tup ds.reverse))
  | _ => none
theorem _root_.L2.PE.or {X : Cx} {e : Expr} {t u : TE} (h1 : PE X e t) (h2 : PE X e u) : PE X e (fun σ H Q => t σ H Q ∨ u σ H Q) := ⟨fun pins s σ H Q I q => q.elim (h1.run pins s σ H Q I) (h2.run pins s σ H Q I)⟩
theorem de_rev (ha : DE X G W a fa) : DE X G W (.Subscript a (.Slice none none (some (.UnaryOp .USub (.Constant (.int 1) k p1) p2)) p3) pos) (fUn gRev fa) := fun gd =>
  ((pe_revL (ha gd)).or (pe_revT (ha gd))).imp fun σ H Q ⟨env, ex, r, h⟩ => by
    unfold fUn at h
    cases e1 : fa env with
    | no => rw [e1] at h; exact h.elim
    | ex x e => rw [e1] at h; exact .inl ⟨env, ex, r, by rw [e1]; exact h⟩
    | ok t e =>
      rw [e1] at h
      have h : Aft (XOk G W σ ex) _ (ofO e (gRev (frz t))) := h
      cases ed : frz t with
      | lst ds =>
        rw [ed] at h
        refine .inl ⟨env, ex, r, ?_⟩
        rw [e1]
        intro H1 v r1
        have r2 := r1.freeze
        rw [ed] at r2
        obtain ⟨p, vs, ev, sq, hl, pk⟩ := r2.out1.pickL
        obtain ⟨h1, h2⟩ := pk vs.reverse ds.reverse fun F r => Rps.rev r
        rw [← gd.hK]
        exact ⟨p, vs, ev, sq, fun q nq => h _ _ (r2.back1 (Roots.newL (by simpa using h1) h2 nq))⟩
      | tup ds =>
        rw [ed] at h
        refine .inr ⟨env, ex, r, ?_⟩
        rw [e1]
        intro H1 v r1
        have r2 := r1.freeze
        rw [ed] at r2
        obtain ⟨p, vs, ev, sq, hl, pk⟩ := r2.out1.pickT
        obtain ⟨h1, h2⟩ := pk vs.reverse ds.reverse fun F r => Rps.rev r
        rw [← gd.hK]
        exact ⟨p, vs, ev, sq, fun q nq => h _ _ (r2.back1 (Roots.newT h1 h2 nq))⟩
      | _ => rw [ed] at h; exact h.elim
/-! ### list * int -/
@[simp] def repT (ts : List T) (n : Int) : List T := (List.replicate n.toNat ((frzs ts).map T.fz)).flatten
@[simp] def repS (e : Env) (ts : List T) (k : D) : R T := match k with
  | .int n => if rgOk n = true ∧ ts.length * n.toNat ≤ sizeLine then .ok (.lst (repT ts n)) e else .no
  | _ => .no
@[simp] def fRep (fa fb : M T) (env : Env) : R T := (fa env).bind fun t e1 => match t with
  | .lst ts => (fb e1).bind fun k e2 => repS e2 ts (frz k)
  | _ => .no
theorem Roots.rep {H : Hp} {vs : List V} {ds : List D} {rs : List (V × T)} (n : Nat) (h : Roots Z H (vs.zip (ds.map T.fz) ++ rs)) (hl : vs.length = ds.length) : Roots Z H ((List.replicate n vs).flatten.zip ((List.replicate n (ds.map T.fz)).flatten) ++ rs) := by
  obtain ⟨F, f, s, o, m, q⟩ := h
  obtain ⟨f1, f2, o1, o2, rfl⟩ := OwnR.split o
  obtain ⟨rp, e1⟩ := rps_of (OwnR.of (by simpa using hl) o1)
  subst e1
  refine ⟨F, f2, s, ?_, m, q⟩
  have key : ∀ n, OwnR Z F H ((List.replicate n vs).flatten.zip ((List.replicate n (ds.map T.fz)).flatten)) [] := by
    intro n
    induction n with
    | zero => rfl
    | succ n ih =>
      rw [List.replicate_succ, List.replicate_succ, List.flatten_cons, List.flatten_cons, List.zip_append (by simpa using hl)]
      exact (own_all rp).append ih
  exact (key n).append o2
theorem Roots.lstFrz {H : Hp} {v : V} {ts : List T} {rs : List (V × T)} (h : Roots Z H ((v, .lst ts) :: rs)) : ∃ p vs, v = .ref p ∧ H p = some (.lst vs) ∧ vs.length = ts.length ∧ Roots Z H (vs.zip ((frzs ts).map T.fz) ++ rs) := by
  obtain ⟨F, _, s, ⟨_, f2, ⟨a, ws, f1, e1, e2, o1, rfl⟩, o2, rfl⟩, n, d⟩ := h
  have n' : (a :: (f1 ++ f2)).Nodup := n
  exact ⟨a, ws, e1, e2, o1.length, Roots.freezes ⟨F, f1 ++ f2, s, o1.to.append o2, (List.nodup_cons.mp n').2, fun b hb => d b (List.mem_cons_of_mem _ hb)⟩⟩
theorem de_rep (ha : DE X G W a fa) (hb : DE X G W b fb) : DE X G W (.BinOp a .Mult b pos) (fRep fa fb) := fun gd =>
  (pe_op op_rep (ha gd) (hb gd)).imp fun σ H Q ⟨env, ex, r, h⟩ => rd_then r h fun H1 v t e1 r1 h1 => by
    split at h1
    · rename_i ts
      refine ⟨e1, (v, .lst ts) :: ex, r1, aft_more (l := [_]) (aft_bind h1) fun k e2 q H2 w r2 => ?_⟩
      unfold repS at q
      split at q
      · rename_i n en
        split at q
        · rename_i hc
          have ew : w = .int n := by
            have := r2.freeze.out1.fz
            rw [en] at this
            exact this
          have r3 : Rel G H2 σ e2 ((v, .lst ts) :: ex) := r2.drop
          obtain ⟨p, vs, ev, hp, hl, ro2⟩ := r3.out1.lstFrz
          refine ⟨p, n, vs, ev, ew, hp, by have := (rgOk_iff hc.1).1; omega, by have := (rgOk_iff hc.1).2; omega, by rw [hl]; exact hc.2, fun z nz => q _ _ (r3.back1 ?_)⟩
          have h3 := Roots.rep n.toNat ro2 (by rw [frzs_len]; exact hl)
          exact Roots.newL (by simp [List.length_flatten, hl, frzs_len]) h3 nz
        · exact q.elim
      · exact q.elim
    · exact h1.elim
end
end DL

set_option maxHeartbeats 4000000
namespace DL
open PySem PySem.Spec PyProof.Rows L2
/-! ### lists of ints, of bools -/
@[simp] def intsD : List D → Option (List Int)
  | [] => some []
  | .int i :: ds => (intsD ds).map (i :: ·)
  | _ => none
@[simp] def blsD : List D → Option (List Bool)
  | [] => some []
  | .bl i :: ds => (blsD ds).map (i :: ·)
  | _ => none
@[simp] theorem intsD_map (ns : List Int) : intsD (ns.map D.int) = some ns := by
  induction ns with
  | nil => rfl
  | cons n ns ih => simp [ih]
@[simp] theorem blsD_map (ns : List Bool) : blsD (ns.map D.bl) = some ns := by
  induction ns with
  | nil => rfl
  | cons n ns ih => simp [ih]
section
variable {X : Cx} {Z : Wd} {H : Hp}
theorem intsD_ok : ∀ {vs : List V} {ds : List D} {ns : List Int}, Rps Z H vs ds → intsD ds = some ns → vs = ns.map V.int
  | [], [], _, _, h => by cases h; rfl
  | v :: vs, .int i :: ds, _, r, h => by
    obtain ⟨ms, h1, rfl⟩ := Option.map_eq_some_iff.mp (show (intsD ds).map (i :: ·) = some _ from h)
    have ev : v = .int i := r.1
    rw [ev, intsD_ok r.2 h1]; rfl
  | v :: vs, .non :: _, _, _, h => by simp at h
  | v :: vs, .bl _ :: _, _, _, h => by simp at h
  | v :: vs, .str _ :: _, _, _, h => by simp at h
  | v :: vs, .ty _ :: _, _, _, h => by simp at h
  | v :: vs, .cls _ :: _, _, _, h => by simp at h
  | v :: vs, .lst _ :: _, _, _, h => by simp at h
  | v :: vs, .tup _ :: _, _, _, h => by simp at h
  | v :: vs, .obj .. :: _, _, _, h => by simp at h
  | v :: vs, .dic .. :: _, _, _, h => by simp at h
  | v :: vs, .xd .. :: _, _, _, h => by simp at h
  | [], _ :: _, _, r, _ => r.elim
  | _ :: _, [], _, r, _ => r.elim
theorem blsD_ok : ∀ {vs : List V} {ds : List D} {ns : List Bool}, Rps Z H vs ds → blsD ds = some ns → vs = ns.map V.bl
  | [], [], _, _, h => by cases h; rfl
  | v :: vs, .bl i :: ds, _, r, h => by
    obtain ⟨ms, h1, rfl⟩ := Option.map_eq_some_iff.mp (show (blsD ds).map (i :: ·) = some _ from h)
    have ev : v = .bl i := r.1
    rw [ev, blsD_ok r.2 h1]; rfl
  | v :: vs, .non :: _, _, _, h => by simp at h
  | v :: vs, .int _ :: _, _, _, h => by simp at h
  | v :: vs, .str _ :: _, _, _, h => by simp at h
  | v :: vs, .ty _ :: _, _, _, h => by simp at h
  | v :: vs, .cls _ :: _, _, _, h => by simp at h
  | v :: vs, .lst _ :: _, _, _, h => by simp at h
  | v :: vs, .tup _ :: _, _, _, h => by simp at h
  | v :: vs, .obj .. :: _, _, _, h => by simp at h
  | v :: vs, .dic .. :: _, _, _, h => by simp at h
  | v :: vs, .xd .. :: _, _, _, h => by simp at h
  | [], _ :: _, _, r, _ => r.elim
  | _ :: _, [], _, r, _ => r.elim
@[simp] def gSum : D → Option T
  | .lst ds => (intsD ds).map fun ns => .fz (.int ns.sum)
  | _ => none
@[simp] def gAll : D → Option T
  | .lst ds => (blsD ds).map fun ns => .fz (.bl (ns.all id))
  | _ => none
@[simp] def gAny : D → Option T
  | .lst ds => (blsD ds).map fun ns => .fz (.bl (ns.any id))
  | _ => none
theorem cd_sum (hc : X.calm = true) (hK : Z.K = X.K) : CallD X Z (.builtin "sum") (g1 gSum) := cd_1 (cr_sum hc) fun H rs v d t Q ro e k => by
  rw [← hK]
  unfold gSum at e
  split at e
  · obtain ⟨ns, e1, rfl⟩ := Option.map_eq_some_iff.mp e
    obtain ⟨a, vs, ev, sq, r⟩ := ro.fz
    exact ⟨a, ns, by rw [ev], intsD_ok r e1 ▸ sq, k H _ (Roots.add ro.drop fun _ => rfl)⟩
  · cases e
theorem cd_all (hc : X.calm = true) (hK : Z.K = X.K) : CallD X Z (.builtin "all") (g1 gAll) := cd_1 (cr_all hc) fun H rs v d t Q ro e k => by
  rw [← hK]
  unfold gAll at e
  split at e
  · obtain ⟨ns, e1, rfl⟩ := Option.map_eq_some_iff.mp e
    obtain ⟨a, vs, ev, sq, r⟩ := ro.fz
    exact ⟨a, ns, by rw [ev], blsD_ok r e1 ▸ sq, k H _ (Roots.add ro.drop fun _ => rfl)⟩
  · cases e
theorem cd_any (hc : X.calm = true) (hK : Z.K = X.K) : CallD X Z (.builtin "any") (g1 gAny) := cd_1 (cr_any hc) fun H rs v d t Q ro e k => by
  rw [← hK]
  unfold gAny at e
  split at e
  · obtain ⟨ns, e1, rfl⟩ := Option.map_eq_some_iff.mp e
    obtain ⟨a, vs, ev, sq, r⟩ := ro.fz
    exact ⟨a, ns, by rw [ev], blsD_ok r e1 ▸ sq, k H _ (Roots.add ro.drop fun _ => rfl)⟩
  · cases e
/-! ### str(int), str(text), bool -/
def strF (i : Int) : Bool := decide (i.natAbs.log2 < 1920)
@[simp] def gStr : D → Option T
  | .int i => if strF i = true then some (.fz (.str (toString i))) else none
  | .str x => some (.fz (.str x))
  | _ => none
theorem cd_str : CallD X Z (.type "str") (g1 gStr) := cd_1 (call_str_int.or SkE.call_str_str) fun H rs v d t Q ro e k => by
  unfold gStr at e
  split at e
  · split at e
    · rename_i i hi
      cases e
      exact .inl ⟨i, congrArg (fun x => [x]) ro.fz, of_decide_eq_true hi, k H _ (Roots.add ro.drop fun _ => rfl)⟩
    · cases e
  · cases e
    exact .inr ⟨_, congrArg (fun x => [x]) ro.fz, k H _ (Roots.add ro.drop fun _ => rfl)⟩
  · cases e
@[simp] def gBool : D → Option T
  | .int i => some (.fz (.bl (i != 0)))
  | .bl b => some (.fz (.bl b))
  | .lst ds => some (.fz (.bl (!ds.isEmpty)))
  | _ => none
theorem cd_bool (hK : Z.K = X.K) : CallD X Z (.type "bool") (g1 gBool) := cd_1 (call_bool1.or call_boolL) fun H rs v d t Q ro e k => by
  rw [← hK]
  unfold gBool at e
  split at e
  · cases e
    exact .inl (.inl ⟨_, congrArg (fun x => [x]) ro.fz, k H _ (Roots.add ro.drop fun _ => rfl)⟩)
  · cases e
    exact .inl (.inr ⟨_, congrArg (fun x => [x]) ro.fz, k H _ (Roots.add ro.drop fun _ => rfl)⟩)
  · rename_i ds
    cases e
    obtain ⟨a, vs, ev, sq, r⟩ := ro.fz
    refine .inr ⟨a, vs, by rw [ev], sq, ?_⟩
    rw [isEmpty_len r.length]
    exact k H _ (Roots.add ro.drop fun _ => rfl)
  · cases e
/-! ### isinstance with an own class -/
def tys7 : List String := ["int", "bool", "str", "NoneType", "list", "tuple", "dict"]
/-- what the head finds of the class k, beside the classes cs -/
structure IsiC (K : PySem.W.Frag) (C : Nat → Addr) (cs : List Nat) (k : Nat) : Prop where
  ty : ∀ n ∈ tys7, PySem.W.kitOne K (.type n) (.ref (C k)) = some false
  ow : ∀ c ∈ cs, PySem.W.kitOne K (.ref (C c)) (.ref (C k)) = some (decide (c = k)) ∧ Cls K (C c) ∧ PySem.W.findIn K (.ref (C c)) "__class__" = some (some (.builtin "object.__class__")) ∧
    PySem.W.specialIn K (.builtin "object.__class__") "__get__" = some (some (.builtin "getset_descriptor.__get__")) ∧ PySem.W.takesIn K (.builtin "object.__class__") = some true ∧ PySem.W.mroIn K (C c) (.type "object") = some true
@[simp] def isO (cs : List Nat) (k : Nat) : D → Option Bool
  | .obj c _ _ => if cs.contains c = true then some (decide (c = k)) else none
  | .int _ => some false
  | .bl _ => some false
  | .str _ => some false
  | .non => some false
  | .lst _ => some false
  | .tup _ => some false
  | .dic _ _ => some false
  | _ => none
@[simp] def gIsO (cs : List Nat) (k : Nat) : D → D → Option T
  | d, .cls k' => if k' = k then (isO cs k d).map fun b => .fz (.bl b) else none
  | _, _ => none
theorem isO_ok {cs : List Nat} {k : Nat} {v : V} {d : D} {b : Bool} (I : IsiC Z.K Z.C cs k) (r : Rp Z H v d) (h : isO cs k d = some b) : ∃ t, TyX Z.K H v t ∧ PySem.W.kitOne Z.K t (.ref (Z.C k)) = some b := by
  have base : ∀ {n : String}, tyD d = some n → b = false → ∃ t, TyX Z.K H v t ∧ PySem.W.kitOne Z.K t (.ref (Z.C k)) = some b := by
    intro n hn hb
    obtain ⟨t1, t2⟩ := tyD_ok r hn
    exact ⟨_, t1, by rw [hb]; exact I.ty n t2⟩
  cases d with
  | obj c ns ds =>
    have h : (if cs.contains c = true then some (decide (c = k)) else none) = some b := h
    split at h
    · rename_i hc
      cases h
      obtain ⟨e1, e2, e3, e4, e5, e6⟩ := I.ow c (List.contains_iff_mem.mp hc)
      obtain ⟨a, dx, vs, rfl, e, l, _⟩ := r
      exact ⟨_, .base (.ins e e2 e3 e4 e5 e6), e1⟩
    · cases h
  | int => exact base rfl (by cases h; rfl)
  | bl => exact base rfl (by cases h; rfl)
  | str => exact base rfl (by cases h; rfl)
  | non => exact base rfl (by cases h; rfl)
  | lst => exact base rfl (by cases h; rfl)
  | tup => exact base rfl (by cases h; rfl)
  | dic => exact base rfl (by cases h; rfl)
  | _ => simp at h
theorem cd_isO {cs : List Nat} {k : Nat} (hK : Z.K = X.K) (I : IsiC Z.K Z.C cs k) : CallD X Z (.builtin "isinstance") (g2 (gIsO cs k)) := cd_2 call_isi fun H rs v w d d' t Q ro e q => by
  rw [← hK]
  unfold gIsO at e
  split at e
  · split at e
    · rename_i k' hk
      subst hk
      obtain ⟨b, e3, rfl⟩ := Option.map_eq_some_iff.mp e
      obtain ⟨ty, h1, h2⟩ := isO_ok I ro.fz e3
      have ew : w = .ref (Z.C k') := ro.drop.fz
      subst ew
      exact ⟨v, _, _, _, b, rfl, .own _, h1, h2, q _ _ (Roots.add ro.drop2 fun _ => rfl)⟩
    · cases e
  · cases e
end
/-! ### sorted(set(..)) of ints -/
def insU (x : Int) : List Int → List Int
  | [] => [x]
  | y :: ys => if x < y then x :: y :: ys else if x = y then y :: ys else y :: insU x ys
def srtU : List Int → List Int
  | [] => []
  | x :: xs => insU x (srtU xs)
theorem insU_mem (x : Int) : ∀ (l : List Int) (k : Int), k ∈ insU x l ↔ k = x ∨ k ∈ l
  | [], k => by simp [insU]
  | y :: ys, k => by
    unfold insU
    split
    · simp
    · split
      · rename_i h; subst h; simp
      · simp only [List.mem_cons, insU_mem x ys k]
        constructor
        · rintro (h | h | h) <;> simp [h]
        · rintro (h | h | h) <;> simp [h]
theorem insU_sorted (x : Int) : ∀ (l : List Int), l.Pairwise (· < ·) → (insU x l).Pairwise (· < ·)
  | [], _ => by simp [insU]
  | y :: ys, h => by
    obtain ⟨h1, h2⟩ := List.pairwise_cons.mp h
    unfold insU
    split
    · rename_i hx
      refine List.pairwise_cons.mpr ⟨fun k hk => ?_, h⟩
      rcases List.mem_cons.mp hk with rfl | hk
      · exact hx
      · exact Int.lt_trans hx (h1 k hk)
    · split
      · exact h
      · refine List.pairwise_cons.mpr ⟨fun k hk => ?_, insU_sorted x ys h2⟩
        rcases (insU_mem x ys k).mp hk with rfl | hk
        · omega
        · exact h1 k hk
theorem srtU_mem : ∀ (l : List Int) (k : Int), k ∈ srtU l ↔ k ∈ l
  | [], k => by simp [srtU]
  | x :: xs, k => by simp [srtU, insU_mem, srtU_mem xs k]
theorem srtU_sorted : ∀ (l : List Int), (srtU l).Pairwise (· < ·)
  | [] => .nil
  | x :: xs => insU_sorted x _ (srtU_sorted xs)
/-- sorted lists with the same members are the same -/
theorem sorted_ext : ∀ {xs ys : List Int}, xs.Pairwise (· < ·) → ys.Pairwise (· < ·) → (∀ k, k ∈ xs ↔ k ∈ ys) → xs = ys
  | [], [], _, _, _ => rfl
  | [], y :: ys, _, _, h => by have := (h y).mpr (List.mem_cons_self ..); simp at this
  | x :: xs, [], _, _, h => by have := (h x).mp (List.mem_cons_self ..); simp at this
  | x :: xs, y :: ys, h1, h2, h => by
    obtain ⟨a1, a2⟩ := List.pairwise_cons.mp h1
    obtain ⟨b1, b2⟩ := List.pairwise_cons.mp h2
    have e : x = y := by
      rcases List.mem_cons.mp ((h x).mp (List.mem_cons_self ..)) with e | e
      · exact e
      · rcases List.mem_cons.mp ((h y).mpr (List.mem_cons_self ..)) with e' | e'
        · exact e'.symm
        · have := a1 y e'
          have := b1 x e
          omega
    subst e
    congr 1
    refine sorted_ext a2 b2 fun k => ?_
    constructor
    · intro hk
      rcases List.mem_cons.mp ((h k).mp (List.mem_cons_of_mem _ hk)) with e | e
      · have := a1 k hk; omega
      · exact e
    · intro hk
      rcases List.mem_cons.mp ((h k).mpr (List.mem_cons_of_mem _ hk)) with e | e
      · have := b1 k hk; omega
      · exact e
theorem insU_len (x : Int) : ∀ l : List Int, (insU x l).length ≤ l.length + 1
  | [] => by simp [insU]
  | y :: ys => by
    unfold insU
    split
    · simp
    · split
      · simp
      · simp; exact insU_len x ys
theorem srtU_len : ∀ l : List Int, (srtU l).length ≤ l.length
  | [] => by simp [srtU]
  | x :: xs => Nat.le_trans (insU_len x _) (Nat.succ_le_succ (srtU_len xs))
end DL

set_option maxHeartbeats 4000000
namespace DL
open PySem PySem.Spec PyProof.Rows L2
/-! ### a call of a promise from within a built-in -/
section
variable {X : Cx} {io0 : List Nat} {s0 : L2.St} {n : Nat} {C : Nat → Addr} {W : WX} {e o : Expr} {es : List Expr} {fs : M (List T)} {fo fa fb : M T} {src : List (Option Nat)} {k c : Nat} {ps : List Str} {io : List Nat} {m : Mir} {x : Str} {p pos apos : Pos} {a b : Expr}
theorem Room.in1 {k : Nat} {A : Around} (r : Room (k + 1) A) : Room k A.in1 := ⟨r.hd, by have := r.dp; show A.depth + 3 * k + 5 < _; omega, by have := r.un; show A.units + 1 + 16 * k + 200 < _; omega⟩
theorem run_fnC {CX : CXT} {E : L2.St → XK} {f : Addr} {fd : FuncData} {sp : Sp} {A' : Around} (hA : A'.frames = X.A.frames) {pins : List (Addr × Obj)} {σ : L2.St} {H : Hp} {s : Shared} {Q : VK} {us : List Value} {vs : List V} (F : FnOk X.prog X.w X.K X.mg X.base CX k f fd ps sp) (hr : Room k A') (hb : Binds X.K fd ps []) (hx : PassesAt CX X σ (E σ))
    (I : Inv X pins σ H s) (r : Vals vs us) (h : sp vs H Q (E σ)) : codeAny (model X.prog X.w) A' (.call (.ref f) ⟨us, []⟩) (fun r s' => match r with | .ok (.ret v) => EP X pins σ Q v s' | .ok _ => False | .error e => X.xe e s') s := by
  have hl : us.length = ps.length := by rw [← r.length]; exact F.len _ _ _ _ h
  have b := hb s us I.kIn (by rw [List.append_nil]; exact hl)
  rw [List.append_nil] at b
  have e0 := I.env0
  refine codeAny_mono (F.run A' X.stack s H ⟨us, []⟩ us vs Q (E σ) hr ⟨hA.trans e0.frames, e0.mod, e0.bs, e0.bsz, e0.funs, e0.frf, e0.hok, e0.bare⟩ b r h) fun r s' hq => ?_
  cases r with
  | error e => exact hx pins H s e s' I hq
  | ok fl =>
    cases fl with
    | ret u => exact I.after hq
    | next => exact False.elim hq
    | brk => exact False.elim hq
    | cont => exact False.elim hq
theorem call1A {A' : Around} (hA : A'.frames = X.A.frames) {f : Addr} {fd : FuncData} (gd : Good X ⟨⟨X.K, C⟩, io0, s0, n, false⟩ W) (hr : Room k A') (h2 : Binds X.K fd ps []) (h3 : FnOk X.prog X.w X.K X.mg X.base (L2.CX X.prog X.w) k f fd ps (spOf ⟨X.K, C⟩ ps.length [] m)) (hsl : 1 = ps.length)
    {pins : List (Addr × Obj)} {s : Shared} {σ : L2.St} {H : Hp} {v1 : V} {w1 : Value} {d1 : D} {e : Env} {ex : List (V × T)} {Q : VK} (I : Inv X pins σ H s) (r1 : RelV v1 w1) (r : Rel ⟨⟨X.K, C⟩, io0, s0, n, false⟩ H σ e ((v1, .fz d1) :: ex)) (h : Wnt ⟨⟨X.K, C⟩, io0, s0, n, false⟩ W σ ex Q (retF [] e (m [.fz d1]))) :
    wpAny (model X.prog X.w) A' (call (.ref f) [w1]) (EP X pins σ Q) X.xe s := by
  have r3 : Rel ⟨⟨X.K, C⟩, io0, s0, n, false⟩ H σ e ([v1].zip [.fz d1] ++ ex) := r
  refine wpAny_call (run_fnC (us := [w1]) (vs := [v1]) (E := fun σ cls d H' => W cls d σ H') hA h3 hr h2 (passAt gd.tk σ) I (.cons r1 .nil) ?_)
  exact rd_call (G := ⟨⟨X.K, C⟩, io0, s0, n, false⟩) (src := [none]) (js := []) (io := []) (P := fun t e => ∀ H' v, Rel _ H' σ e ((v, t) :: ex) → Q v H') (fun t e H' v q r' => q H' v r') r3 rfl hsl rfl (fun k j ek => by
    rcases k with _ | k
    · cases ek
    · simp at ek) rfl h
/-! ### the class as a value; C(..) by a local name -/
theorem de_clsG {x : Str} (hm : X.mg x = some (.ref (C c))) (hg : Gl X x := by rfl) (hd : (x == ("__debug__" : Str)) = false := by decide) : DE X ⟨⟨X.K, C⟩, io0, s0, n, false⟩ W (.Name x pos) (fC (.cls c)) :=
  de_const (pe_glob hg hm (v := .ref (C c)) rfl hd) fun _ => rfl
@[simp] def fMakeL (i c : Nat) (m : Mir) (src : List (Option Nat)) (fs : M (List T)) (env : Env) : R T := match env[i]? with
  | some (some (.fz (.cls k))) => if k = c then fMake c m src fs env else .no
  | _ => .no
theorem dmakeL (i : Nat) (F : Dm X.prog X.w X.K X.mg X.base C c "__init__" k ps [0] m) (Mk0 : PySem.W.makesIn X.K (C c) = true) (Mk1 : PySem.W.keepIn X.K (.ref (C c)) = true) (hr : Room (k + 1) X.A) (ha : DA X ⟨⟨X.K, C⟩, io0, s0, n, false⟩ W (e :: es) src fs) (hN : X.N[i]? = some x := by rfl) (hv : Vis X.env.scope x := by first | exact Or.inl rfl | exact Or.inr (Or.inl rfl) | exact Or.inr (Or.inr rfl)) (hsl : src.length + 1 = ps.length := by rfl)
    (hd : (x == ("__debug__" : Str)) = false := by decide) (hcd : (x == ("__classdict__" : Str)) = false := by decide) (he : starEach (e :: es) X.env = (false, eval e X.env) :: starEach es X.env := by rfl) (hpl : (backTo pos (starEach es X.env)).any (·.1) = false := by rfl) :
    DE X ⟨⟨X.K, C⟩, io0, s0, n, false⟩ W (.Call (.Name x p) (e :: es) [] pos) (fMakeL i c m src fs) := fun gd => by
  obtain ⟨f, fd, h1, h2, h3⟩ := F.ex
  refine ⟨fun pins s σ H Q I ⟨env, ex, r, h⟩ => ?_⟩
  unfold fMakeL at h
  split at h
  · rename_i kk et
    split at h
    · rename_i hk
      subst hk
      obtain ⟨v, ev, r0⟩ := r.take et
      have hv0 : v = .ref (C kk) := r0.out1.fz
      subst hv0
      refine wpAny_Call_Name_kw (thn ((pe_var hN hv hd hcd).run pins s σ H (fun v H1 => v = .ref (C kk) ∧ H1 = H) I ⟨_, ev, rfl, rfl⟩) fun u s1 ⟨v, H1, I1, rv, ev1, eH⟩ => ?_)
      subst ev1 eH
      obtain rfl : u = Value.ref (C kk) := rv
      have hA : rdA ⟨⟨X.K, C⟩, io0, s0, n, false⟩ W src fs σ H1 (fun vs H1 => ∀ x dx, H1 x = none → H1 dx = none → dx ≠ x → spOf ⟨X.K, C⟩ ps.length [0] m (.ref x :: vs) (upd (upd H1 dx (.own x)) x (.ins (C kk) dx [])) (fun v H2 => v = .non ∧ Q (.ref x) H2) (fun cls d H' => W cls d σ H')) :=
        ⟨env, ex, r, aft_more (l := []) (aft_bind h) fun ts e' p H2 vs hl hs hsrc r2 => rd_make (G := ⟨⟨X.K, C⟩, io0, s0, n, false⟩) (P := fun t e => ∀ H' v, Rel _ H' σ e ((v, t) :: ex) → Q v H') (fun t e H' v q r' => q H' v r') r2 hl (by rw [hl, ← hs]; exact hsl) p⟩
      refine PySem.W.callWith_K (h₀ := X.base) I.ok.mod.kin Mk1 (thn ((ha gd).run pos pins s1 σ H1 _ I1 hA) fun us s1 ⟨vs, H1, I1, rv, q⟩ => ⟨I1.kIn, ?_⟩) he hpl
      exact runMakeS (E := fun σ cls d H' => W cls d σ H') ⟨Mk0, h1.at_, h1.fn, Mk1⟩ h3 hr h2 (passAt gd.tk σ) I1 rv q
    · exact h.elim
  · exact h.elim
/-! ### classmethods -/
structure Dc (P : Program) (w : World) (K : PySem.W.Frag) (mg : Str → Option Value) (base : Heap) (C : Nat → Addr) (c : Nat) (x : Str) (k : Nat) (ps : List Str) (m : Mir) : Prop where
  ex : ∃ mc p g fd, ClX.CRead K (C c) mc ∧ ClX.CMet K (C c) mc x p g ∧ Binds K fd ps [] ∧ FnOk P w K mg base (L2.CX P w) k g fd ps (spOf ⟨K, C⟩ ps.length [] m)
@[simp] def fCm (c : Nat) (m : Mir) (src : List (Option Nat)) (fo : M T) (fs : M (List T)) (env : Env) : R T := (fo env).bind fun t e => match frz t with
  | .cls k => if k = c then (fs e).bind fun ts e2 => retF [] e2 (m (.fz (.cls c) :: frzA src ts)) else .no
  | _ => .no
theorem dcm (F : Dc X.prog X.w X.K X.mg X.base C c x k ps m) (hr : Room k X.A) (ho : DE X ⟨⟨X.K, C⟩, io0, s0, n, false⟩ W o fo) (ha : DA X ⟨⟨X.K, C⟩, io0, s0, n, false⟩ W (e :: es) src fs) (hsl : src.length + 1 = ps.length := by rfl) {pl : Sem Bool}
    (hst : starEach (e :: es) X.env = (false, eval e X.env) :: starEach es X.env := by rfl) (hpl : (backTo pos (starEach es X.env)).any (·.1) = false := by rfl)
    (ht : eval (.Call (.Attribute o x apos) (e :: es) [] pos) X.env = (do
      let w1 ← eval o X.env
      standAt apos.atName
      let (f, w2) ← holding [w1] (getMethod w1 x pl)
      callWith pos f w2 (backTo pos (starEach (e :: es) X.env)) (backToKw pos (keywordEach [] X.env))) := by rfl) :
    DE X ⟨⟨X.K, C⟩, io0, s0, n, false⟩ W (.Call (.Attribute o x apos) (e :: es) [] pos) (fCm c m src fo fs) := fun gd => by
  obtain ⟨mc, pp, g, fd, h0, h1, h2, h3⟩ := F.ex
  refine ⟨fun pins s σ H Q I ⟨env, ex, r, h⟩ => ?_⟩
  have hO : rdE ⟨⟨X.K, C⟩, io0, s0, n, false⟩ W fo σ H (fun y H1 => y = .ref (C c) ∧ rdA ⟨⟨X.K, C⟩, io0, s0, n, false⟩ W src fs σ H1 (fun vs H2 => spOf ⟨X.K, C⟩ ps.length [] m (y :: vs) H2 Q (fun cls d H' => W cls d σ H'))) := by
    refine rd_then r h fun H1 y t e1 r1 h' => ?_
    split at h'
    · rename_i kk ek
      split at h'
      · rename_i hk
        subst hk
        have r1' := r1.freeze
        rw [ek] at r1'
        have ey : y = .ref (C kk) := r1'.out1.fz
        refine ⟨ey, e1, (y, .fz (.cls kk)) :: ex, r1', aft_more (l := [_]) (aft_bind h') fun ts e2 q H2 vs hlv hs hsrc r2 => ?_⟩
        have r3 : Rel _ H2 σ e2 ((y :: vs).zip (.fz (.cls kk) :: ts) ++ ex) := r2.perm List.perm_middle
        refine rd_call (G := ⟨⟨X.K, C⟩, io0, s0, n, false⟩) (src := none :: src) (js := []) (P := fun t e => ∀ H' v, Rel _ H' σ e ((v, t) :: ex) → Q v H') (fun t e H' v q r' => q H' v r') r3 (by simpa using hlv) (by simp only [List.length_cons, hlv, ← hs]; exact hsl) (by simpa using hs) (fun k j ek => ?_) rfl ?_
        · cases k with
          | zero => cases ek
          | succ k => exact hsrc k j ek
        · exact q
      · exact h'.elim
    · exact h'.elim
  refine PySem.W.methodCall_KW (pl := pl) (thn ((ho gd).run pins s σ H _ I hO) fun u s1 ⟨y, H1, I1, ry, ey, q⟩ => ?_) ht
  subst ey
  obtain rfl : u = Value.ref (C c) := ry
  refine ClX.getmethcm_ok I1 h0 h1 fun s2 I2 => ?_
  refine ClX.callwith_cm I2 (ClX.base_none I1 (Nat.le_refl _)) h1.fi (thn ((ha gd).run pos _ s2 σ H1 _ I2 q) fun us s3 ⟨vs, H2, I3, rv, q2⟩ => ⟨⟨ClX.pin_at I3, I3.kIn⟩, ?_⟩) hst hpl
  refine thn (wpAny_call (PySem.W.method_call (ClX.pin_at I3) (run_fnC (us := .ref (C c) :: us) (vs := .ref (C c) :: vs) (E := fun σ cls d H' => W cls d σ H') rfl h3 hr h2 (passAt gd.tk σ) I3 (.cons rfl rv) q2))) fun _ _ y => ClX.unpinE y
end
end DL

set_option maxHeartbeats 4000000
namespace DL
open PySem PySem.Spec PyProof.Rows L2
section
variable {X : Cx} {io0 : List Nat} {s0 : L2.St} {n : Nat} {C : Nat → Addr} {W : WX} {e o : Expr} {es : List Expr} {fs : M (List T)} {fo fa fb : M T} {src : List (Option Nat)} {k c : Nat} {ps : List Str} {io : List Nat} {m : Mir} {x : Str} {p pos apos : Pos} {a b : Expr}
theorem dcm0 (F : Dc X.prog X.w X.K X.mg X.base C c x k ps m) (hr : Room k X.A) (ho : DE X ⟨⟨X.K, C⟩, io0, s0, n, false⟩ W o fo) (hsl : 1 = ps.length := by rfl) {pl : Sem Bool}
    (ht : eval (.Call (.Attribute o x apos) [] [] pos) X.env = (do
      let w1 ← eval o X.env
      standAt apos.atName
      let (f, w2) ← holding [w1] (getMethod w1 x pl)
      callWith pos f w2 (backTo pos (starEach [] X.env)) (backToKw pos (keywordEach [] X.env))) := by rfl) :
    DE X ⟨⟨X.K, C⟩, io0, s0, n, false⟩ W (.Call (.Attribute o x apos) [] [] pos) (fCm c m [] fo fNil) := fun gd => by
  obtain ⟨mc, pp, g, fd, h0, h1, h2, h3⟩ := F.ex
  refine ⟨fun pins s σ H Q I ⟨env, ex, r, h⟩ => ?_⟩
  have hO : rdE ⟨⟨X.K, C⟩, io0, s0, n, false⟩ W fo σ H (fun y H1 => y = .ref (C c) ∧ spOf ⟨X.K, C⟩ ps.length [] m [y] H1 Q (fun cls d H' => W cls d σ H')) := by
    refine rd_then r h fun H1 y t e1 r1 h' => ?_
    split at h'
    · rename_i kk ek
      split at h'
      · rename_i hk
        subst hk
        have r1' := r1.freeze
        rw [ek] at r1'
        have ey : y = .ref (C kk) := r1'.out1.fz
        refine ⟨ey, ?_⟩
        have r3 : Rel _ H1 σ e1 ([y].zip [.fz (.cls kk)] ++ ex) := r1'
        exact rd_call (G := ⟨⟨X.K, C⟩, io0, s0, n, false⟩) (src := [none]) (js := []) (P := fun t e => ∀ H' v, Rel _ H' σ e ((v, t) :: ex) → Q v H') (fun t e H' v q r' => q H' v r') r3 rfl hsl rfl (fun k j ek => by
          cases k with
          | zero => cases ek
          | succ k => simp at ek) rfl h'
      · exact h'.elim
    · exact h'.elim
  refine PySem.W.methodCall_KW (pl := pl) (thn ((ho gd).run pins s σ H _ I hO) fun u s1 ⟨y, H1, I1, ry, ey, q⟩ => ?_) ht
  subst ey
  obtain rfl : u = Value.ref (C c) := ry
  refine ClX.getmethcm_ok I1 h0 h1 fun s2 I2 => ?_
  refine PySem.W.callWith_M0 ⟨ClX.pin_at I2, I2.kIn⟩ h1.fi ?_
  exact thn (wpAny_call (PySem.W.method_call (ClX.pin_at I2) (run_fnC (us := [.ref (C c)]) (vs := [.ref (C c)]) (E := fun σ cls d H' => W cls d σ H') rfl h3 hr h2 (passAt gd.tk σ) I2 (.cons rfl .nil) q))) fun _ _ y => ClX.unpinE y
theorem rdE_mono0 {G : Sg} {W : WX} {σ : L2.St} {H : Hp} {f : M T} {Q Q' : VK} (h : rdE G W f σ H Q) (k : ∀ v H', Q v H' → Q' v H') : rdE G W f σ H Q' := by
  obtain ⟨env, ex, r, h⟩ := h
  refine ⟨env, ex, r, ?_⟩
  cases e : f env with
  | ok t e' => rw [e] at h; exact fun H' v r' => k v H' (h H' v r')
  | ex x e' => rw [e] at h; exact h
  | no => rw [e] at h; exact h
/-! ### the type of a value -/
theorem look_ty {Z : Wd} {M : Model} {pins : List (Addr × Obj)} {σ : L2.St} {H : Hp} {s : Shared} {v : V} {w : Value} {d : D} {nm : String} (hK : Z.K = X.K) (I : Inv X pins σ H s) (r : Rp Z H v d) (rv : RelV v w) (h : tyD d = some nm) : PySem.W.Looks M s.heap (typeOf w) (.type nm) := by
  unfold tyD at h
  split at h <;> cases h
  · cases r; obtain ⟨t, rfl⟩ := rv
    exact fun A Q E s k q => wpAny_typeOf (typeIs_int _ _ _) q
  · cases r; cases rv
    exact fun A Q E s k q => wpAny_typeOf (T := "bool") (by rfl) q
  · cases r; obtain ⟨t, rfl⟩ := rv
    exact fun A Q E s k q => wpAny_typeOf (typeIs_str _ _ _) q
  · cases r; cases rv
    exact fun A Q E s k q => wpAny_typeOf (T := "NoneType") (by rfl) q
  · obtain ⟨a, vs, rfl, q, _⟩ := r
    cases rv
    obtain ⟨its, r', ⟨o, n, ho, hc, _⟩, hz⟩ := I.list (hK ▸ q)
    exact fun A Q E s k q => wpAny_typeOf_ref (k _ _ ho) (by rw [hc]; exact q)
  · obtain ⟨a, vs, rfl, q, _⟩ := r
    cases rv
    obtain ⟨its, r', ⟨o, ho, hc, _⟩, hz⟩ := I.tuple (hK ▸ q)
    exact fun A Q E s k q => wpAny_typeOf_ref (k _ _ ho) (by rw [hc]; exact q)
  · obtain ⟨a, kvs, rfl, q, _⟩ := r
    cases rv
    obtain ⟨_, _, _, _, o, _, _, h1, h2, _⟩ := (show ObjOk X.prog X.w H s.heap a (.dK kvs) from I.hok a _ q)
    exact fun A Q E s k q => wpAny_typeOf_ref (k _ _ h1) (by rw [h2.1]; exact q)
/-- first == second, the second of any kind -/
@[simp] def okR (k : Nat) : D → Bool
  | .obj c' _ _ => decide (c' = k)
  | d => (tyD d).isSome
@[simp] def gEqA (k : Nat) (m : Mir) : D → D → RF
  | .obj c ns ds, d => if c = k ∧ okR k d = true then m [.fz (.obj c ns ds), .fz d] else .no
  | _, _ => .no
theorem okR_cases {k : Nat} {d : D} (h : okR k d = true) : (∃ c ns ds, d = .obj c ns ds ∧ c = k) ∨ ∃ nm, tyD d = some nm := by
  cases d with
  | obj c ns ds => exact .inl ⟨c, ns, ds, rfl, of_decide_eq_true h⟩
  | ty => exact .inr (Option.isSome_iff_exists.mp h)
  | cls => exact .inr (Option.isSome_iff_exists.mp h)
  | xd => exact .inr (Option.isSome_iff_exists.mp h)
  | val => exact .inr (Option.isSome_iff_exists.mp h)
  | know => exact .inr (Option.isSome_iff_exists.mp h)
  | raw => exact .inr (Option.isSome_iff_exists.mp h)
  | _ => exact .inr ⟨_, rfl⟩
theorem ox_eqA (F : Dm X.prog X.w X.K X.mg X.base C c "__eq__" k ps [] m) (hn : ∀ nm ∈ tys7, PySem.W.notFirst X.K (C c) (.type nm) = true) (hr : Room k X.A) (hsl : 2 = ps.length := by rfl) : OpX X ⟨⟨X.K, C⟩, io0, s0, n, false⟩ W (compareOp .Eq) (gEqA c m) := fun gd pins s σ H v1 v2 w1 w2 d1 d2 e ex Q I r1 r2 r h => by
  obtain ⟨f, fd, h1, h2, h3⟩ := F.ex
  unfold gEqA at h
  split at h
  · rename_i c1 ns1 ds1
    split at h
    · rename_i hc
      obtain ⟨rfl, hd⟩ := hc
      obtain ⟨a, dx, od, ea, J⟩ := inst_at r.drop.out1.fz I.hok
      obtain ⟨mm, fr⟩ := I.fr
      subst ea
      obtain rfl : w1 = Value.ref a := r1
      have fin := thn (call2 (C := C) (v1 := .ref a) (v2 := v2) gd hr h2 h3 hsl I rfl r2 r h) fun u s' z => cmpBack z
      rcases okR_cases hd with ⟨c2, ns2, ds2, rfl, e2⟩ | ⟨nm, hnm⟩
      · subst e2
        obtain ⟨b, dy, od', eb, J'⟩ := inst_at r.out1.fz I.hok
        subst eb
        obtain rfl : w2 = Value.ref b := r2
        exact PySem.W.cmp_K (op := .Eq) (tb := .ref (C c2)) hr.units0 fr I.ok.mod.kin J J'.type (by simp [PySem.W.notFirst]) h1.at_ h1.fn fin
      · obtain ⟨_, hm⟩ := tyD_ok r.out1.fz hnm
        exact PySem.W.cmp_K (op := .Eq) (tb := .type nm) hr.units0 fr I.ok.mod.kin J (look_ty (Z := ⟨X.K, C⟩) rfl I r.out1.fz r2 hnm) (hn nm hm) h1.at_ h1.fn fin
    · exact h.elim
  · exact h.elim
/-! ### in by an own __contains__ that tells a bool -/
@[simp] def gInO (k : Nat) (neg : Bool) (m : Mir) : D → D → RF
  | d, .obj c ns ds => if c = k then (match m [.fz (.obj c ns ds), .fz d] with | .ok (.fz (.bl b)) us => .ok (.fz (.bl (if neg then !b else b))) us | .ex x us => .ex x us | _ => .no) else .no
  | _, _ => .no
theorem wnt_bl {G : Sg} {W : WX} {σ : L2.St} {ex : List (V × T)} {Q : VK} {e : Env} {r : RF} {neg : Bool} (h : Wnt G W σ ex Q (retF [] e (match r with | .ok (.fz (.bl b)) us => .ok (.fz (.bl (if neg then !b else b))) us | .ex x us => .ex x us | _ => .no))) :
    Wnt G W σ ex (fun v H' => ∃ b, v = .bl b ∧ Q (.bl (if neg then !b else b)) H') (retF [] e r) := by
  cases r with
  | no => exact h.elim
  | ex x us =>
    simp only [retF] at h ⊢
    split at h
    · rename_i hu
      rw [if_pos hu]
      exact h
    · exact h.elim
  | ok t us =>
    cases t with
    | fz d =>
      cases d with
      | bl b =>
        simp only [retF] at h ⊢
        split at h
        · rename_i hu
          rw [if_pos hu]
          intro H' v r'
          have ev : v = .bl b := r'.out1.fz
          exact ⟨b, ev, h H' _ (r'.drop.back1 (Roots.add r'.drop.2.2 fun _ => rfl))⟩
        · exact h.elim
      | _ => exact h.elim
    | _ => exact h.elim
theorem ox_in (F : Dm X.prog X.w X.K X.mg X.base C c "__contains__" k ps [] m) (hr : Room k X.A) (hsl : 2 = ps.length := by rfl) : OpX X ⟨⟨X.K, C⟩, io0, s0, n, false⟩ W (compareOp .In) (gInO c false m) := fun gd pins s σ H v1 v2 w1 w2 d1 d2 e ex Q I r1 r2 r h => by
  obtain ⟨f, fd, h1, h2, h3⟩ := F.ex
  unfold gInO at h
  split at h
  · rename_i c1 ns1 ds1
    split at h
    · rename_i hc
      subst hc
      obtain ⟨b, dy, od', eb, J'⟩ := inst_at r.out1.fz I.hok
      obtain ⟨mm, fr⟩ := I.fr
      subst eb
      obtain rfl : w2 = Value.ref b := r2
      refine PySem.W.in_K fr I.ok.mod.kin J' h1.at_ h1.fn (thn (call2 (C := C) (v1 := .ref b) (v2 := v1) gd hr h2 h3 hsl I rfl r1 (r.perm (.swap ..)) (wnt_bl (neg := false) h)) fun u s' ⟨v, H', I', rv, bb, ev, q⟩ => ?_)
      subst ev
      cases rv
      exact wpAny_truthy_bool ⟨.bl bb, H', I', rfl, q⟩
    · exact h.elim
  · exact h.elim
theorem ox_notin (F : Dm X.prog X.w X.K X.mg X.base C c "__contains__" k ps [] m) (hr : Room k X.A) (hsl : 2 = ps.length := by rfl) : OpX X ⟨⟨X.K, C⟩, io0, s0, n, false⟩ W (compareOp .NotIn) (gInO c true m) := fun gd pins s σ H v1 v2 w1 w2 d1 d2 e ex Q I r1 r2 r h => by
  obtain ⟨f, fd, h1, h2, h3⟩ := F.ex
  unfold gInO at h
  split at h
  · rename_i c1 ns1 ds1
    split at h
    · rename_i hc
      subst hc
      obtain ⟨b, dy, od', eb, J'⟩ := inst_at r.out1.fz I.hok
      obtain ⟨mm, fr⟩ := I.fr
      subst eb
      obtain rfl : w2 = Value.ref b := r2
      refine PySem.W.notIn_K fr I.ok.mod.kin J' h1.at_ h1.fn (thn (call2 (C := C) (v1 := .ref b) (v2 := v1) gd hr h2 h3 hsl I rfl r1 (r.perm (.swap ..)) (wnt_bl (neg := true) h)) fun u s' ⟨v, H', I', rv, bb, ev, q⟩ => ?_)
      subst ev
      cases rv
      exact wpAny_truthy_bool ⟨.bl (!bb), H', I', rfl, q⟩
    · exact h.elim
  · exact h.elim
/-! ### the truth of an object by its own __bool__ -/
@[simp] def retB (e : Env) : RF → R Bool
  | .ok (.fz (.bl b)) us => if us.length = 0 then .ok b e else .no
  | .ex x us => if us.length = 0 then .ex x e else .no
  | _ => .no
@[simp] def fTruO (k : Nat) (m : Mir) (fa : M T) (env : Env) : R Bool := (fa env).bind fun t e => match frz t with
  | .obj c ns ds => if c = k then retB e (m [.fz (.obj c ns ds)]) else .no
  | _ => .no
theorem dt_obj (F : Dm X.prog X.w X.K X.mg X.base C c "__bool__" k ps [] m) (hr : Room k X.A) (ha : DE X ⟨⟨X.K, C⟩, io0, s0, n, false⟩ W a fa) (hsl : 1 = ps.length := by rfl) (he : ∀ whole, isTrue a X.env whole = (do let v ← whole; standAt a.pos; holding [v] (truthy v)) := by intro _; rfl) :
    DT X ⟨⟨X.K, C⟩, io0, s0, n, false⟩ W a (fTruO c m fa) := fun gd => by
  obtain ⟨f, fd, h1, h2, h3⟩ := F.ex
  refine ⟨fun pins s σ H Q I ⟨env, ex, r, h⟩ => ?_⟩
  have hO : rdE ⟨⟨X.K, C⟩, io0, s0, n, false⟩ W fa σ H (fun y H1 => ∃ e1 ns ds, Rel ⟨⟨X.K, C⟩, io0, s0, n, false⟩ H1 σ e1 ((y, .fz (.obj c ns ds)) :: ex) ∧ Aft (XOk ⟨⟨X.K, C⟩, io0, s0, n, false⟩ W σ ex) (fun b e => ∀ H', Rel ⟨⟨X.K, C⟩, io0, s0, n, false⟩ H' σ e ex → Q b H') (retB e1 (m [.fz (.obj c ns ds)]))) := by
    refine rd_then r h fun H1 y t e1 r1 h' => ?_
    split at h'
    · rename_i c1 ns ds et
      split at h'
      · rename_i hc
        subst hc
        have r1' := r1.freeze
        rw [et] at r1'
        exact ⟨e1, ns, ds, r1', h'⟩
      · exact h'.elim
    · exact h'.elim
  refine isTrue_plain (thn ((ha gd).run pins s σ H _ I hO) fun u s1 ⟨y, H1, I1, ry, e1, ns, ds, r1, h'⟩ => ?_) (he _)
  obtain ⟨aa, dx, od, ea, J⟩ := inst_at r1.out1.fz I1.hok
  obtain ⟨mm, fr⟩ := I1.fr
  subst ea
  obtain rfl : u = Value.ref aa := ry
  refine PySem.W.truthy_K fr I1.ok.mod.kin J h1.at_ h1.fn (thn (call1 (C := C) (v1 := .ref aa) (Q := fun v H' => ∃ b, v = .bl b ∧ Q b H') gd hr h2 h3 hsl I1 rfl r1 ?_) fun u s' ⟨v, H', I', rv, bb, ev, q⟩ => ?_)
  · unfold retB at h'
    split at h'
    · rename_i b us em
      rw [em]
      simp only [retF]
      split at h'
      · rename_i hu
        rw [if_pos (by simpa using hu)]
        intro H' v r'
        have ev : v = .bl b := r'.out1.fz
        have : us = [] := List.eq_nil_of_length_eq_zero hu
        subst this
        exact ⟨b, ev, h' H' r'.drop⟩
      · exact h'.elim
    · rename_i x us em
      rw [em]
      simp only [retF]
      split at h'
      · rename_i hu
        rw [if_pos (by simpa using hu)]
        have : us = [] := List.eq_nil_of_length_eq_zero hu
        subst this
        exact h'
      · exact h'.elim
    · exact h'.elim
  · subst ev
    cases rv
    exact ⟨H', I', q⟩
/-! ### str(o) by an own __str__ -/
@[simp] def retStr (e : Env) : RF → R T
  | .ok (.fz (.str x)) us => if us.length = 0 then .ok (.fz (.str x)) e else .no
  | .ex x us => if us.length = 0 then .ex x e else .no
  | _ => .no
@[simp] def fStrO (k : Nat) (m : Mir) (fa : M T) (env : Env) : R T := (fa env).bind fun t e => match frz t with
  | .obj c ns ds => if c = k then retStr e (m [.fz (.obj c ns ds)]) else .no
  | _ => .no
theorem bt_str' : bootBuiltins "str" = some (.type "str") := by decide +kernel
theorem dstrO (F : Dm X.prog X.w X.K X.mg X.base C c "__str__" k ps [] m) (hm : X.mg "str" = none) (hr : Room (k + 2) X.A) (ha : DE X ⟨⟨X.K, C⟩, io0, s0, n, false⟩ W a fa) (hsl : 1 = ps.length := by rfl) (hg : Gl X "str" := by rfl) (hs : starEach [a] X.env = [(false, eval a X.env)] := by rfl) :
    DE X ⟨⟨X.K, C⟩, io0, s0, n, false⟩ W (.Call (.Name "str" p) [a] [] pos) (fStrO c m fa) := fun gd => by
  obtain ⟨f, fd, h1, h2, h3⟩ := F.ex
  refine ⟨fun pins s σ H Q I ⟨env, ex, r, h⟩ => ?_⟩
  have hO : rdE ⟨⟨X.K, C⟩, io0, s0, n, false⟩ W fa σ H (fun y H1 => ∃ e1 ns ds, Rel ⟨⟨X.K, C⟩, io0, s0, n, false⟩ H1 σ e1 ((y, .fz (.obj c ns ds)) :: ex) ∧ Wnt ⟨⟨X.K, C⟩, io0, s0, n, false⟩ W σ ex Q (retStr e1 (m [.fz (.obj c ns ds)]))) := by
    refine rd_then r h fun H1 y t e1 r1 h' => ?_
    split at h'
    · rename_i c1 ns ds et
      split at h'
      · rename_i hc
        subst hc
        have r1' := r1.freeze
        rw [et] at r1'
        exact ⟨e1, ns, ds, r1', h'⟩
      · exact h'.elim
    · exact h'.elim
  have hP := (pa_cons (ha gd) pa_nil hs).run pos pins s σ H (fun vs H1 => ∃ y, vs = [y] ∧ ∃ e1 ns ds, Rel ⟨⟨X.K, C⟩, io0, s0, n, false⟩ H1 σ e1 ((y, .fz (.obj c ns ds)) :: ex) ∧ Wnt ⟨⟨X.K, C⟩, io0, s0, n, false⟩ W σ ex Q (retStr e1 (m [.fz (.obj c ns ds)]))) I (rdE_mono0 hO fun y H1 q => ⟨y, rfl, q⟩)
  refine Call_ (ld_blt I hg hm bt_str' (PyProof.Rows.callWith_type1 (thn hP fun us s1 ⟨vs, H1, I1, rv, y, ey, e1, ns, ds, r1, h'⟩ => ?_) hs rfl))
  subst ey
  cases rv with
  | @cons _ u _ ur ry rr =>
  cases rr
  obtain ⟨aa, dx, od, ea, J⟩ := inst_at r1.out1.fz I1.hok
  subst ea
  obtain rfl : u = Value.ref aa := ry
  have hr2 : Room k X.A.in1.in1 := Room.in1 (Room.in1 hr)
  refine PySem.W.kso_call (by have := hr2.units0; exact this) I1.kIn J h1.at_ h1.fn (thn (call1A (A' := X.A.in1.in1) rfl (C := C) (v1 := .ref aa) (Q := fun v H' => ∃ x, v = .str x ∧ Q v H') gd hr2 h2 h3 hsl I1 rfl r1 ?_) fun u s' ⟨v, H', I', rv, bb, ev, q⟩ => ?_)
  · unfold retStr at h'
    split at h'
    · rename_i b us em
      rw [em]
      simp only [retF]
      split at h'
      · rename_i hu
        rw [if_pos (by simpa using hu)]
        intro H' v r'
        have ev : v = .str b := r'.out1.fz
        have : us = [] := List.eq_nil_of_length_eq_zero hu
        subst this
        exact ⟨b, ev, h' H' v r'⟩
      · exact h'.elim
    · rename_i x us em
      rw [em]
      simp only [retF]
      split at h'
      · rename_i hu
        rw [if_pos (by simpa using hu)]
        have : us = [] := List.eq_nil_of_length_eq_zero hu
        subst this
        exact h'
      · exact h'.elim
    · exact h'.elim
  · subst ev
    obtain ⟨t, rfl⟩ := rv
    exact ⟨.str bb, H', I', ⟨t, rfl⟩, q⟩
/-! ### o(e, ..) by an own __call__ -/
structure Do (P : Program) (w : World) (K : PySem.W.Frag) (mg : Str → Option Value) (base : Heap) (C : Nat → Addr) (c : Nat) (k : Nat) (ps : List Str) (m : Mir) : Prop where
  ex : ∃ f fd, StX.CallO K (C c) f ∧ Binds K fd ps [] ∧ FnOk P w K mg base (L2.CX P w) k f fd ps (spOf ⟨K, C⟩ ps.length [] m)
@[simp] def isC (k : Nat) : D → Bool
  | .obj c _ _ => decide (c = k)
  | _ => false
@[simp] def fCallO (k : Nat) (m : Mir) (src : List (Option Nat)) (fo : M T) (fs : M (List T)) (env : Env) : R T := (fo env).bind fun t e => if isC k (frz t) = true then (fs e).bind fun ts e2 => retF [] e2 (m (.fz (frz t) :: frzA src ts)) else .no
theorem dcallO (F : Do X.prog X.w X.K X.mg X.base C c k ps m) (hr : Room k X.A) (ho : DE X ⟨⟨X.K, C⟩, io0, s0, n, false⟩ W o fo) (ha : DA X ⟨⟨X.K, C⟩, io0, s0, n, false⟩ W (e :: es) src fs) (hsl : src.length + 1 = ps.length := by rfl)
    (ht : eval (.Call o (e :: es) [] pos) X.env = (do callWith pos (← eval o X.env) [] (backTo pos (starEach (e :: es) X.env)) (backToKw pos (keywordEach [] X.env))) := by rfl)
    (he : starEach (e :: es) X.env = (false, eval e X.env) :: starEach es X.env := by rfl) (hpl : (backTo pos (starEach es X.env)).any (·.1) = false := by rfl) :
    DE X ⟨⟨X.K, C⟩, io0, s0, n, false⟩ W (.Call o (e :: es) [] pos) (fCallO c m src fo fs) := fun gd => by
  obtain ⟨f, fd, h1, h2, h3⟩ := F.ex
  refine ⟨fun pins s σ H Q I ⟨env, ex, r, h⟩ => ?_⟩
  have hO : rdE ⟨⟨X.K, C⟩, io0, s0, n, false⟩ W fo σ H (fun y H1 => ∃ a, y = .ref a ∧ rdA ⟨⟨X.K, C⟩, io0, s0, n, false⟩ W src fs σ H1 (fun vs H2 => (∃ dx fs, H2 a = some (.ins (C c) dx fs)) ∧ spOf ⟨X.K, C⟩ ps.length [] m (y :: vs) H2 Q (fun cls d H' => W cls d σ H'))) := by
    refine rd_then r h fun H1 y t e1 r1 h' => ?_
    split at h'
    · rename_i hm
      cases ed : frz t with
      | obj c1 ns ds =>
        rw [ed] at hm
        have hc : c1 = c := of_decide_eq_true hm
        subst hc
        have r1' := r1.freeze
        rw [ed] at r1' h'
        obtain ⟨a, dx, vs, ey, hy, _⟩ := r1'.out1.fz
        refine ⟨a, ey, e1, (y, .fz (.obj c1 ns ds)) :: ex, r1', aft_more (l := [_]) (aft_bind h') fun ts e2 q H2 ws hlv hs hsrc r2 => ?_⟩
        have r3 : Rel _ H2 σ e2 ((y :: ws).zip (.fz (.obj c1 ns ds) :: ts) ++ ex) := r2.perm List.perm_middle
        refine ⟨?_, rd_call (G := ⟨⟨X.K, C⟩, io0, s0, n, false⟩) (src := none :: src) (js := []) (P := fun t e => ∀ H' v, Rel _ H' σ e ((v, t) :: ex) → Q v H') (fun t e H' v q r' => q H' v r') r3 (by simpa using hlv) (by simp only [List.length_cons, hlv, ← hs]; exact hsl) (by simpa using hs) (fun k j ek => ?_) rfl ?_⟩
        · have r4 : Rel _ H2 σ e2 ((y, .fz (.obj c1 ns ds)) :: (ws.zip ts ++ ex)) := r3
          obtain ⟨a', dx', vs', ey', hy', _⟩ := r4.out1.fz
          rw [ey] at ey'
          cases ey'
          exact ⟨dx', _, hy'⟩
        · cases k with
          | zero => cases ek
          | succ k => exact hsrc k j ek
        · exact q
      | _ => rw [ed] at hm; simp at hm
    · exact h'.elim
  refine Call_ (thn ((ho gd).run pins s σ H _ I hO) fun u s1 ⟨y, H1, I1, ry, a, ey, q⟩ => ?_) ht
  subst ey
  obtain rfl : u = Value.ref a := ry
  refine StX.callO_with (thn ((ha gd).run pos pins s1 σ H1 _ I1 q) fun us s2 ⟨vs, H2, I2, rv, ⟨dx, ff, hi⟩, q2⟩ => ?_) he hpl
  obtain ⟨ox, od, J, hd⟩ := StX.insC_at I2 (.inr ⟨dx, ff, hi⟩)
  refine ⟨⟨C c, ox, od, J, hd⟩, ?_⟩
  exact wpAny_call (PySem.W.kco_code I2.kIn J hd h1.at_ h1.fn h1.fi (run_fnC (us := .ref a :: us) (vs := .ref a :: vs) (E := fun σ cls d H' => W cls d σ H') rfl h3 hr h2 (passAt gd.tk σ) I2 (.cons rfl rv) q2))
end
end DL

set_option maxHeartbeats 4000000
namespace DL
open PySem PySem.Spec PyProof.Rows L2
/-! ### more built-ins by name -/
theorem bt_sum : bootBuiltins "sum" = some (.builtin "sum") := by decide +kernel
theorem bt_all : bootBuiltins "all" = some (.builtin "all") := by decide +kernel
theorem bt_any : bootBuiltins "any" = some (.builtin "any") := by decide +kernel
section
variable {X : Cx} {G : Sg} {W : WX} {a b : Expr} {fs : M (List T)} {src : List (Option Nat)} {p pos : Pos}
theorem c_sum (hm : X.mg "sum" = none) (ha : DA X G W [a] src fs) (hg : Gl X "sum" := by rfl) (he : starEach [a] X.env = (false, eval a X.env) :: starEach [] X.env := by rfl) (hh : G.hot = false := by rfl) : DE X G W (.Call (.Name "sum" p) [a] [] pos) (fCB (g1 gSum) fs) := fun gd => (de_callB (cd_sum (gd.calm hh) gd.hK) hg hm bt_sum ha (he := he)) gd
theorem c_all (hm : X.mg "all" = none) (ha : DA X G W [a] src fs) (hg : Gl X "all" := by rfl) (he : starEach [a] X.env = (false, eval a X.env) :: starEach [] X.env := by rfl) (hh : G.hot = false := by rfl) : DE X G W (.Call (.Name "all" p) [a] [] pos) (fCB (g1 gAll) fs) := fun gd => (de_callB (cd_all (gd.calm hh) gd.hK) hg hm bt_all ha (he := he)) gd
theorem c_any (hm : X.mg "any" = none) (ha : DA X G W [a] src fs) (hg : Gl X "any" := by rfl) (he : starEach [a] X.env = (false, eval a X.env) :: starEach [] X.env := by rfl) (hh : G.hot = false := by rfl) : DE X G W (.Call (.Name "any" p) [a] [] pos) (fCB (g1 gAny) fs) := fun gd => (de_callB (cd_any (gd.calm hh) gd.hK) hg hm bt_any ha (he := he)) gd
theorem c_str (hm : X.mg "str" = none) (ha : DA X G W [a] src fs) (hg : Gl X "str" := by rfl) (he : starEach [a] X.env = (false, eval a X.env) :: starEach [] X.env := by rfl) : DE X G W (.Call (.Name "str" p) [a] [] pos) (fCB (g1 gStr) fs) := de_callTy cd_str hg hm bt_str ha (he := he)
theorem c_bool (hm : X.mg "bool" = none) (ha : DA X G W [a] src fs) (hg : Gl X "bool" := by rfl) (he : starEach [a] X.env = (false, eval a X.env) :: starEach [] X.env := by rfl) : DE X G W (.Call (.Name "bool" p) [a] [] pos) (fCB (g1 gBool) fs) := fun gd => (de_callTy (cd_bool gd.hK) hg hm bt_bool ha (he := he)) gd
theorem c_isO {io0 : List Nat} {s0 : L2.St} {n : Nat} {hot : Bool} {C : Nat → Addr} {cs : List Nat} {k : Nat} (I : IsiC X.K C cs k) (hm : X.mg "isinstance" = none) (ha : DA X ⟨⟨X.K, C⟩, io0, s0, n, hot⟩ W [a, b] src fs) (hg : Gl X "isinstance" := by rfl) (he : starEach [a, b] X.env = (false, eval a X.env) :: starEach [b] X.env := by rfl) (hpl : (backTo pos (starEach [b] X.env)).any (·.1) = false := by rfl) :
    DE X ⟨⟨X.K, C⟩, io0, s0, n, hot⟩ W (.Call (.Name "isinstance" p) [a, b] [] pos) (fCB (g2 (gIsO cs k)) fs) := de_callB (G := ⟨⟨X.K, C⟩, io0, s0, n, hot⟩) (cd_isO rfl I) hg hm bt_isinstance ha (he := he) (hpl := hpl)
end
/-! ### not of any value that can be tested -/
@[simp] def fNotT (fa : M T) (env : Env) : R T := (fa env).bind fun t e => match truD (frz t) with | some b => .ok (.fz (.bl !b)) e | none => .no
section
variable {X : Cx} {G : Sg} {W : WX} {Z : Wd} {a b c e o : Expr} {es : List Expr} {fa fb fc fo : M T} {fs : M (List T)} {src : List (Option Nat)} {p p2 pos apos : Pos}
theorem de_notT (ha : DE X G W a fa) : DE X G W (.UnaryOp .Not a pos) (fNotT fa) := fun gd =>
  (pe_notT (ha gd)).imp fun σ H Q ⟨env, ex, r, h⟩ => rd_then r h fun H' v t e r' h' => by
    cases e1 : truD (frz t) with
    | none => rw [e1] at h'; exact h'.elim
    | some b =>
      rw [e1] at h'
      exact ⟨b, by rw [← gd.hK]; exact truD_ok r'.freeze.out1.fz e1, h' H' _ (r'.drop.back1 (Roots.add r'.drop.2.2 fun _ => rfl))⟩
/-! ### texts -/
@[simp] def strsD : List D → Option (List Str)
  | [] => some []
  | .str x :: ds => (strsD ds).map (x :: ·)
  | _ => none
theorem strsD_ok {H : Hp} : ∀ {vs : List V} {ds : List D} {ys : List Str}, Rps Z H vs ds → strsD ds = some ys → vs = ys.map V.str
  | [], [], _, _, h => by cases h; rfl
  | [], _ :: _, _, r, _ => r.elim
  | _ :: _, [], _, r, _ => r.elim
  | v :: vs, d :: ds, ys, r, h => by
    unfold strsD at h
    split at h
    · rename_i he; cases he
    · rename_i x ds' he
      cases he
      obtain ⟨zs, e1, rfl⟩ := Option.map_eq_some_iff.mp h
      have ev : v = .str x := r.1
      rw [ev, strsD_ok r.2 e1]
      rfl
    · cases h
@[simp] def joinD (x : D) (l : D) : Option T := match x, (match l with | .lst ds => strsD ds | .tup ds => strsD ds | _ => none) with
  | .str a, some ys => if (ys.map (·.length)).sum + ys.length * a.length ≤ 16777216 then some (.fz (.str (Txt.join a ys))) else none
  | _, _ => none
@[simp] def isStr : D → Bool
  | .str _ => true
  | _ => false
@[simp] def fJoin (fo fa : M T) (env : Env) : R T := (fo env).bind fun t e => if isStr (frz t) = true then (fa e).bind fun u e2 => ofO e2 (joinD (frz t) (frz u)) else .no
theorem djoin (ho : DE X G W o fo) (ha : DE X G W a fa) (hs : starEach [a] X.env = [(false, eval a X.env)] := by rfl) (hbase : attributeBase o "join" X.env (eval o X.env) = eval o X.env := by rfl) (hline : (apos.endLine == pos.line) = true := by rfl) :
    DE X G W (.Call (.Attribute o "join" apos) [a] [] pos) (fJoin fo fa) := fun gd =>
  (pe_join (ho gd) (ha gd) hs hbase hline).imp fun σ H Q ⟨env, ex, r, h⟩ => rd_then r h fun H1 v t e1 r1 h1 => by
    split at h1
    · rename_i hst
      have r1 := r1.freeze
      cases et : frz t with
      | str a =>
        rw [et] at r1 h1
        have ev : v = .str a := r1.out1.fz
        refine ⟨⟨a, ev⟩, e1, (v, .fz (.str a)) :: ex, r1, aft_more (l := [_]) (aft_bind h1) fun u e2 q H2 w r2 => ?_⟩
        cases ej : joinD (.str a) (frz u) with
        | none => rw [ej] at q; exact q.elim
        | some t' =>
          rw [ej] at q
          have r3 := r2.freeze
          have rp := r3.out1.fz
          unfold joinD at ej
          split at ej
          · rename_i x ys a' ys' ea es
            cases ea
            split at ej
            · rename_i hz
              cases ej
              have q2 := q H2 (.str (Txt.join a ys')) (r3.drop.drop.back1 (Roots.add r3.drop.drop.2.2 fun _ => rfl))
              cases eu : frz u with
              | lst ds =>
                rw [eu] at rp es
                obtain ⟨p, vs, ew, sq, rps⟩ := rp
                have := strsD_ok rps es
                subst this
                exact ⟨a, p, ys', ev, by rw [ew], .inl (by rw [← gd.hK]; exact sq), hz, q2⟩
              | tup ds =>
                rw [eu] at rp es
                obtain ⟨p, vs, ew, sq, rps⟩ := rp
                have := strsD_ok rps es
                subst this
                exact ⟨a, p, ys', ev, by rw [ew], .inr (by rw [← gd.hK]; exact sq), hz, q2⟩
              | _ => rw [eu] at es; cases es
            · cases ej
          · cases ej
      | _ => rw [et] at hst; cases hst
    · exact h1.elim
end
end DL

set_option maxHeartbeats 4000000
namespace DL
open PySem PySem.Spec PyProof.Rows L2
/-! ### a slot lent: what is read is not frozen -/
section
variable {X : Cx} {G : Sg} {W : WX} {Z : Wd} {a b c e o : Expr} {es : List Expr} {fa fb fc fo : M T} {fs : M (List T)} {src : List (Option Nat)} {p p2 pos apos : Pos}
/-- a pure operation: its answer is a scalar -/
def PurD (X : Cx) (Z : Wd) (f : Value → Value → Sem Value) (g : D → D → Option D) : Prop := ∃ r, OpR X f r ∧ ∀ (H : Hp) (v1 v2 : V) (d1 d2 d : D) (Q : VK),
  Rp Z H v1 d1 → Rp Z H v2 d2 → g d1 d2 = some d → (∀ v, (∀ F, Rp Z F v d) → Q v H) → r v1 v2 H Q
theorem PurD.or {f : Value → Value → Sem Value} {g k : D → D → Option D} (h1 : PurD X Z f g) (h2 : PurD X Z f k) : PurD X Z f (fun a b => (g a b).or (k a b)) := by
  obtain ⟨r, a1, b1⟩ := h1
  obtain ⟨q, a2, b2⟩ := h2
  refine ⟨_, a1.or a2, fun H v1 v2 d1 d2 t Q p1 p2 h k => ?_⟩
  dsimp only at h
  cases e : g d1 d2 with
  | some t' =>
    rw [e] at h
    cases h
    exact .inl (b1 H v1 v2 d1 d2 _ Q p1 p2 e k)
  | none =>
    rw [e] at h
    exact .inr (b2 H v1 v2 d1 d2 _ Q p1 p2 h k)
theorem PurD.le {f : Value → Value → Sem Value} {g k : D → D → Option D} (h : PurD X Z f g) (hk : ∀ a b t, k a b = some t → g a b = some t) : PurD X Z f k := by
  obtain ⟨r, h1, h2⟩ := h
  exact ⟨r, h1, fun H v1 v2 d1 d2 t Q p1 p2 e q => h2 H v1 v2 d1 d2 t Q p1 p2 (hk _ _ _ e) q⟩
@[simp] def pEq (neg : Bool) (a b : D) : Option D := match eqS a b with
  | some k => some (.bl (if neg then !k else k))
  | none => if okD a 8 = true ∧ okD b 8 = true then some (.bl (if neg then !eqD a b else eqD a b)) else none
theorem pd_eq {k : Nat} (hr : Room k X.A) (hK : Z.K = X.K) : PurD X Z (compareOp .Eq) (pEq false) := by
  refine ⟨_, op_eq.or (op_eqD (by have := hr.un; omega)), fun H v1 v2 d1 d2 t Q p1 p2 e q => ?_⟩
  unfold pEq at e
  split at e
  · rename_i b e1
    cases e
    obtain ⟨h1, h2⟩ := eqS_ok p1 p2 e1
    refine .inl ⟨h1, ?_⟩
    rw [h2]
    exact q _ fun _ => rfl
  · split at e
    · rename_i hh
      cases e
      obtain ⟨a1, a2, a3⟩ := okD_ok p1 hh.1
      obtain ⟨b1, b2, b3⟩ := okD_ok p2 hh.2
      refine .inr ⟨_, _, hK ▸ a1, hK ▸ b1, ?_, ?_, ?_⟩
      · unfold SeqAt.shaped; rw [a2, decide_eq_true (by omega)]; rfl
      · unfold SeqAt.shaped; rw [b2, decide_eq_true (by omega)]; rfl
      · rw [eqv_ok _ _ _ _ hh.1 hh.2]
        exact q _ fun _ => rfl
    · cases e
theorem pd_ne {k : Nat} (hr : Room k X.A) (hK : Z.K = X.K) : PurD X Z (compareOp .NotEq) (pEq true) := by
  refine ⟨_, op_ne.or (op_neD (by have := hr.un; omega)), fun H v1 v2 d1 d2 t Q p1 p2 e q => ?_⟩
  unfold pEq at e
  split at e
  · rename_i b e1
    cases e
    obtain ⟨h1, h2⟩ := eqS_ok p1 p2 e1
    refine .inl ⟨h1, ?_⟩
    rw [h2]
    exact q _ fun _ => rfl
  · split at e
    · rename_i hh
      cases e
      obtain ⟨a1, a2, a3⟩ := okD_ok p1 hh.1
      obtain ⟨b1, b2, b3⟩ := okD_ok p2 hh.2
      refine .inr ⟨_, _, hK ▸ a1, hK ▸ b1, ?_, ?_, ?_⟩
      · unfold SeqAt.shaped; rw [a2, decide_eq_true (by omega)]; rfl
      · unfold SeqAt.shaped; rw [b2, decide_eq_true (by omega)]; rfl
      · rw [eqv_ok _ _ _ _ hh.1 hh.2]
        exact q _ fun _ => rfl
    · cases e
@[simp] def pIn (neg : Bool) : D → D → Option D
  | x, .lst xs => if flatD x = true ∧ xs.all flatD = true then some (.bl (if neg then !inD x xs else inD x xs)) else none
  | x, .tup xs => if flatD x = true ∧ xs.all flatD = true then some (.bl (if neg then !inD x xs else inD x xs)) else none
  | _, _ => none
theorem pIn_ok {neg : Bool} {H : Hp} {v1 v2 : V} {d1 d2 d : D} {Q : VK} (p1 : Rp Z H v1 d1) (p2 : Rp Z H v2 d2) (e : pIn neg d1 d2 = some d) (k : ∀ v, (∀ F, Rp Z F v d) → Q v H) : rIn Z.K neg v1 v2 H Q := by
  unfold pIn at e
  split at e
  · split at e
    · rename_i xs hc
      cases e
      obtain ⟨a, vs, ea, q, rp⟩ := p2
      refine ⟨a, vs, ea, .inl q, flat_rp p1 hc.1, flats_rp rp hc.2, ?_⟩
      rw [inV_rp p1 hc.1 rp hc.2]
      exact k _ fun _ => rfl
    · cases e
  · split at e
    · rename_i xs hc
      cases e
      obtain ⟨a, vs, ea, q, rp⟩ := p2
      refine ⟨a, vs, ea, .inr q, flat_rp p1 hc.1, flats_rp rp hc.2, ?_⟩
      rw [inV_rp p1 hc.1 rp hc.2]
      exact k _ fun _ => rfl
    · cases e
  · cases e
theorem pd_in (hK : Z.K = X.K) : PurD X Z (compareOp .In) (pIn false) := ⟨_, op_in_seq, fun H v1 v2 d1 d2 t Q p1 p2 e k => by rw [← hK]; exact pIn_ok p1 p2 e k⟩
theorem pd_notin (hK : Z.K = X.K) : PurD X Z (compareOp .NotIn) (pIn true) := ⟨_, op_notIn_seq, fun H v1 v2 d1 d2 t Q p1 p2 e k => by rw [← hK]; exact pIn_ok p1 p2 e k⟩
@[simp] def ofP (env : Env) : Option D → R T
  | some d => .ok (.fz d) env
  | none => .no
/-- slot i's data -/
@[simp] def datOf (env : Env) (i : Nat) : Option D := match env[i]? with
  | some (some t) => some (frz t)
  | _ => none
theorem Rel.dat {H : Hp} {σ : L2.St} {env : Env} {ex : List (V × T)} {i : Nat} {d : D} (r : Rel G H σ env ex) (h : datOf env i = some d) : ∃ v, σ[i]? = some (some v) ∧ Rp G.Z H v d := by
  unfold datOf at h
  split at h
  · rename_i t e
    cases h
    obtain ⟨v, ev, r1⟩ := r.take e
    exact ⟨v, ev, r1.freeze.out1.fz⟩
  · cases h
/-- x op b, x the slot i -/
@[simp] def fCmpL (g : D → D → Option D) (i : Nat) (fb : M T) (env : Env) : R T := match datOf env i with
  | some _ => (fb env).bind fun u e => match datOf e i with
    | some d => ofP e (g d (frz u))
    | none => .no
  | none => .no
theorem rd_cmpL {g : D → D → Option D} {r : R2} {i : Nat} (hr : ∀ (H : Hp) (v1 v2 : V) (d1 d2 d : D) (Q : VK), Rp G.Z H v1 d1 → Rp G.Z H v2 d2 → g d1 d2 = some d → (∀ v, (∀ F, Rp G.Z F v d) → Q v H) → r v1 v2 H Q)
    (σ : L2.St) (H : Hp) (Q : VK) (h : rdE G W (fCmpL g i fb) σ H Q) : tOp r (tVar i) (rdE G W fb) σ H Q := by
  obtain ⟨env, ex, rel, h⟩ := h
  unfold fCmpL at h
  split at h
  · rename_i d0 e0
    obtain ⟨v, ev, _⟩ := rel.dat e0
    refine ⟨v, ev, rd_then rel h fun H2 w u e2 r2 h2 => ?_⟩
    split at h2
    · rename_i d ed
      obtain ⟨v', ev', rp⟩ := r2.drop.dat ed
      rw [ev] at ev'
      cases ev'
      cases eg : g d (frz u) with
      | none => rw [eg] at h2; exact h2.elim
      | some d' =>
        rw [eg] at h2
        exact hr H2 v w d (frz u) d' Q rp r2.freeze.out1.fz eg fun z hz => h2 H2 z (r2.drop.back1 (Roots.add r2.drop.2.2 hz))
    · exact h2.elim
  · exact h.elim
theorem de_cmpL (i : Nat) {x : Str} {op : CmpOp} {g : D → D → Option D} (ho : PurD X G.Z (compareOp op) g) (hb : DE X G W b fb) (hN : X.N[i]? = some x := by rfl) (hv : Vis X.env.scope x := by first | exact Or.inl rfl | exact Or.inr (Or.inl rfl) | exact Or.inr (Or.inr rfl)) (h1 : behindInMarks op b = false := by first | exact nomark _ | rfl)
    (hd : (x == ("__debug__" : Str)) = false := by decide) (hcd : (x == ("__classdict__" : Str)) = false := by decide) : DE X G W (.Compare (.Name x p) [op] [b] pos) (fCmpL g i fb) := fun gd => by
  obtain ⟨r, h2, h3⟩ := ho
  exact (pe_cmpR h2 (pe_var hN hv hd hcd) (hb gd) h1).imp (rd_cmpL h3)
theorem dt_cmpL (i : Nat) {x : Str} {op : CmpOp} {g : D → D → Option D} (ho : PurD X G.Z (compareOp op) g) (hb : DE X G W b fb) (hN : X.N[i]? = some x := by rfl) (hv : Vis X.env.scope x := by first | exact Or.inl rfl | exact Or.inr (Or.inl rfl) | exact Or.inr (Or.inr rfl)) (h1 : behindInMarks op b = false := by first | exact nomark _ | rfl)
    (hd : (x == ("__debug__" : Str)) = false := by decide) (hcd : (x == ("__classdict__" : Str)) = false := by decide) : DT X G W (.Compare (.Name x p) [op] [b] pos) (fTestB (fCmpL g i fb)) := fun gd => by
  obtain ⟨r, h2, h3⟩ := ho
  refine (pt_cmpR h2 (pe_var hN hv hd hcd) (hb gd) h1).imp fun σ H Q ⟨env, ex, rel, h⟩ => ?_
  refine rd_cmpL h3 σ H _ (rd_then rel h fun H' v t e r' h' => ?_)
  split at h'
  · rename_i k
    have ev : v = .bl k := r'.out1.fz
    exact ⟨k, ev, h' H' r'.drop⟩
  · exact h'.elim
/-- a op x, x the slot i -/
@[simp] def fCmpR (g : D → D → Option D) (i : Nat) (fa : M T) (env : Env) : R T := (fa env).bind fun u e => match datOf e i with
    | some d => ofP e (g (frz u) d)
    | none => .no
theorem rd_cmpRL {g : D → D → Option D} {r : R2} {i : Nat} (hr : ∀ (H : Hp) (v1 v2 : V) (d1 d2 d : D) (Q : VK), Rp G.Z H v1 d1 → Rp G.Z H v2 d2 → g d1 d2 = some d → (∀ v, (∀ F, Rp G.Z F v d) → Q v H) → r v1 v2 H Q)
    (σ : L2.St) (H : Hp) (Q : VK) (h : rdE G W (fCmpR g i fa) σ H Q) : tOp r (rdE G W fa) (tVar i) σ H Q := by
  obtain ⟨env, ex, rel, h⟩ := h
  refine rd_then rel h fun H2 w u e2 r2 h2 => ?_
  split at h2
  · rename_i d ed
    obtain ⟨v, ev, rp⟩ := r2.drop.dat ed
    refine ⟨v, ev, ?_⟩
    cases eg : g (frz u) d with
    | none => rw [eg] at h2; exact h2.elim
    | some d' =>
      rw [eg] at h2
      exact hr H2 w v (frz u) d d' Q r2.freeze.out1.fz rp eg fun z hz => h2 H2 z (r2.drop.back1 (Roots.add r2.drop.2.2 hz))
  · exact h2.elim
theorem de_cmpRL (i : Nat) {x : Str} {op : CmpOp} {g : D → D → Option D} (ho : PurD X G.Z (compareOp op) g) (ha : DE X G W a fa) (hN : X.N[i]? = some x := by rfl) (hv : Vis X.env.scope x := by first | exact Or.inl rfl | exact Or.inr (Or.inl rfl) | exact Or.inr (Or.inr rfl)) (h1 : behindInMarks op (.Name x p) = false := by first | exact nomark _ | rfl)
    (hd : (x == ("__debug__" : Str)) = false := by decide) (hcd : (x == ("__classdict__" : Str)) = false := by decide) : DE X G W (.Compare a [op] [.Name x p] pos) (fCmpR g i fa) := fun gd => by
  obtain ⟨r, h2, h3⟩ := ho
  exact (pe_cmpR h2 (ha gd) (pe_var hN hv hd hcd) h1).imp (rd_cmpRL h3)
theorem dt_cmpRL (i : Nat) {x : Str} {op : CmpOp} {g : D → D → Option D} (ho : PurD X G.Z (compareOp op) g) (ha : DE X G W a fa) (hN : X.N[i]? = some x := by rfl) (hv : Vis X.env.scope x := by first | exact Or.inl rfl | exact Or.inr (Or.inl rfl) | exact Or.inr (Or.inr rfl)) (h1 : behindInMarks op (.Name x p) = false := by first | exact nomark _ | rfl)
    (hd : (x == ("__debug__" : Str)) = false := by decide) (hcd : (x == ("__classdict__" : Str)) = false := by decide) : DT X G W (.Compare a [op] [.Name x p] pos) (fTestB (fCmpR g i fa)) := fun gd => by
  obtain ⟨r, h2, h3⟩ := ho
  refine (pt_cmpR h2 (ha gd) (pe_var hN hv hd hcd) h1).imp fun σ H Q ⟨env, ex, rel, h⟩ => ?_
  refine rd_cmpRL h3 σ H _ (rd_then rel h fun H' v t e r' h' => ?_)
  split at h'
  · rename_i k
    have ev : v = .bl k := r'.out1.fz
    exact ⟨k, ev, h' H' r'.drop⟩
  · exact h'.elim
/-! built-in calls with lent arguments -/
def PurC (X : Cx) (Z : Wd) (f : Value) (g : List D → Option D) : Prop := ∃ r, CallR X f r ∧ ∀ (H : Hp) (vs : List V) (ds : List D) (d : D) (Q : VK),
  Rps Z H vs ds → g ds = some d → (∀ v, (∀ F, Rp Z F v d) → Q v H) → r vs H Q
@[simp] def putS : List (Option Nat) → List T → Env → Env
  | some j :: src, t :: ts, e => putS src ts (e.set j (some t))
  | none :: src, _ :: ts, e => putS src ts e
  | _, _, e => e
@[simp] def fCBl (g : List D → Option D) (src : List (Option Nat)) (fs : M (List T)) (env : Env) : R T := (fs env).bind fun ts e => ofP (putS src ts e) (g (frzs ts))
theorem Rel.putS {H : Hp} {σ : L2.St} {ex : List (V × T)} : ∀ {src : List (Option Nat)} {ts : List T} {vs : List V} {e : Env}, Rel G H σ e (vs.zip ts ++ ex) → vs.length = ts.length → src.length = ts.length → (∀ (k j : Nat), src[k]? = some (some j) → ∃ v, vs[k]? = some v ∧ σ[j]? = some (some v)) → Rel G H σ (putS src ts e) ex
  | [], [], [], e, r, _, _, _ => r
  | [], _ :: _, _, _, _, _, h, _ => by cases h
  | _ :: _, [], _, _, _, _, h, _ => by cases h
  | _, [], _ :: _, _, _, h, _, _ => by cases h
  | _, _ :: _, [], _, _, h, _, _ => by cases h
  | some j :: src, t :: ts, v :: vs, e, r, h1, h2, hv => by
    obtain ⟨v', e1, e2⟩ := hv 0 j rfl
    have e1 : v = v' := Option.some.inj e1
    subst e1
    exact Rel.putS (src := src) (ts := ts) (vs := vs) (Rel.put r e2) (Nat.succ.inj h1) (Nat.succ.inj h2) fun k j ek => hv (k + 1) j ek
  | none :: src, t :: ts, v :: vs, e, r, h1, h2, hv => Rel.putS (src := src) (ts := ts) (vs := vs) (Rel.drop r) (Nat.succ.inj h1) (Nat.succ.inj h2) fun k j ek => hv (k + 1) j ek
theorem Roots.all {H : Hp} : ∀ {vs : List V} {ds : List D} {rs : List (V × T)}, vs.length = ds.length → Roots Z H (vs.zip (ds.map T.fz) ++ rs) → Rps Z H vs ds
  | [], [], _, _, _ => trivial
  | [], _ :: _, _, h, _ => by cases h
  | _ :: _, [], _, h, _ => by cases h
  | v :: vs, d :: ds, rs, h, r => ⟨Roots.fz r, Roots.all (rs := rs) (Nat.succ.inj h) (Roots.drop r)⟩
theorem rd_cbl {g : List D → Option D} {r : List V → Hp → VK → Prop} (hr : ∀ (H : Hp) (vs : List V) (ds : List D) (d : D) (Q : VK), Rps G.Z H vs ds → g ds = some d → (∀ v, (∀ F, Rp G.Z F v d) → Q v H) → r vs H Q)
    (σ : L2.St) (H : Hp) (Q : VK) (h : rdE G W (fCBl g src fs) σ H Q) : tCB r (rdA G W src fs) σ H Q := by
  obtain ⟨env, ex, rel, h⟩ := h
  refine ⟨env, ex, rel, aft_more (l := []) (aft_bind h) fun ts e p H2 vs hl hs hsrc r2 => ?_⟩
  cases e1 : g (frzs ts) with
  | none => rw [e1] at p; exact p.elim
  | some t =>
    rw [e1] at p
    have r3 := Rel.putS r2 hl hs hsrc
    exact hr H2 vs _ t Q (Roots.all (by rw [frzs_len]; exact hl) (Roots.freezes r2.out)) e1 fun v hv => p H2 v (r3.back1 (Roots.add r3.2.2 hv))
@[simp] def q1 (g : D → Option D) : List D → Option D
  | [d] => g d
  | _ => none
@[simp] def q2 (g : D → D → Option D) : List D → Option D
  | [d, e] => g d e
  | _ => none
@[simp] def pLen : D → Option D
  | .lst xs => some (.int xs.length)
  | .tup xs => some (.int xs.length)
  | _ => none
theorem pc_len (hK : Z.K = X.K) : PurC X Z (.builtin "len") (q1 pLen) := ⟨_, call_len, fun H vs ds d Q rp e k => by
  unfold q1 at e
  split at e
  · rename_i d0
    rcases vs with _ | ⟨v, _ | ⟨w, vs⟩⟩
    · exact rp.elim
    · have p := rp.1
      unfold pLen at e
      split at e
      · obtain ⟨a, vs, rfl, q, r⟩ := p
        cases e
        refine ⟨_, vs.length, rfl, .inl ⟨vs, by rw [← hK]; exact q, rfl⟩, ?_⟩
        rw [r.length]
        exact k _ fun _ => rfl
      · obtain ⟨a, vs, rfl, q, r⟩ := p
        cases e
        refine ⟨_, vs.length, rfl, .inr ⟨vs, by rw [← hK]; exact q, rfl⟩, ?_⟩
        rw [r.length]
        exact k _ fun _ => rfl
      · cases e
    · exact rp.2.elim
  · cases e⟩
@[simp] def pIsi : D → D → Option D
  | d, .ty n => (tyD d).bind fun a => (isiB a n).map fun k => .bl k
  | _, _ => none
theorem pc_isi (hK : Z.K = X.K) : PurC X Z (.builtin "isinstance") (q2 pIsi) := ⟨_, call_isi, fun H vs ds d Q rp e k => by
  unfold q2 at e
  split at e
  · rename_i d0 d1
    rcases vs with _ | ⟨v, _ | ⟨w, _ | ⟨z, vs⟩⟩⟩
    · exact rp.elim
    · exact rp.2.elim
    · rw [← hK]
      unfold pIsi at e
      split at e
      · rename_i n
        obtain ⟨a, e1, e2⟩ := Option.bind_eq_some_iff.mp e
        obtain ⟨b, e3, rfl⟩ := Option.map_eq_some_iff.mp e2
        obtain ⟨ty, hm⟩ := tyD_ok rp.1 e1
        have ew : w = .ty n := rp.2.1
        subst ew
        exact ⟨v, .ty n, _, _, b, rfl, .ty n, ty, kit_ty (isiB_some hm e3), k _ fun _ => rfl⟩
      · cases e
    · exact rp.2.2.elim
  · cases e⟩
theorem de_callP {x : Str} {id : String} {g : List D → Option D} {p : Pos} (hc : PurC X G.Z (.builtin id) g) (hg : Gl X x) (hm : X.mg x = none) (hv : bootBuiltins x = some (.builtin id)) (ha : DA X G W (e :: es) src fs) (hn : x ≠ "__name__" := by decide) (hdb : (x == ("__debug__" : Str)) = false := by decide)
    (he : starEach (e :: es) X.env = (false, eval e X.env) :: starEach es X.env := by rfl) (hpl : (backTo pos (starEach es X.env)).any (·.1) = false := by rfl) : DE X G W (.Call (.Name x p) (e :: es) [] pos) (fCBl g src fs) := fun gd => by
  obtain ⟨r, h1, h2⟩ := hc
  exact (pe_callB h1 hg hm hv (ha gd) hn hdb he hpl).imp (rd_cbl h2)
theorem cl_len (hm : X.mg "len" = none) (ha : DA X G W [a] src fs) (hg : Gl X "len" := by rfl) (he : starEach [a] X.env = (false, eval a X.env) :: starEach [] X.env := by rfl) : DE X G W (.Call (.Name "len" p) [a] [] pos) (fCBl (q1 pLen) src fs) := fun gd => (de_callP (pc_len gd.hK) hg hm bt_len ha (he := he)) gd
theorem cl_isi (hm : X.mg "isinstance" = none) (ha : DA X G W [a, b] src fs) (hg : Gl X "isinstance" := by rfl) (he : starEach [a, b] X.env = (false, eval a X.env) :: starEach [b] X.env := by rfl) (hpl : (backTo pos (starEach [b] X.env)).any (·.1) = false := by rfl) : DE X G W (.Call (.Name "isinstance" p) [a, b] [] pos) (fCBl (q2 pIsi) src fs) := fun gd => (de_callP (pc_isi gd.hK) hg hm bt_isinstance ha (he := he) (hpl := hpl)) gd
/-! a lent list cut, copied: its items are frozen, it is still owned -/
theorem Roots.lstKeep {H : Hp} {v : V} {ts : List T} {rs : List (V × T)} (h : Roots Z H ((v, .lst ts) :: rs)) : ∃ p vs, v = .ref p ∧ H p = some (.lst vs) ∧ vs.length = ts.length ∧
    ∀ (vs' : List V) (ds' : List D), (∀ F, Rps Z F vs (frzs ts) → Rps Z F vs' ds') → vs'.length = ds'.length ∧ Roots Z H (vs'.zip (ds'.map T.fz) ++ ((v, .lst ((frzs ts).map T.fz)) :: rs)) := by
  obtain ⟨F, _, s, ⟨_, f2, ⟨a, ws, f1, e1, e2, o1, rfl⟩, o2, rfl⟩, n, d⟩ := h
  have n' : (a :: (f1 ++ f2)).Nodup := n
  obtain ⟨na, nf⟩ := List.nodup_cons.mp n'
  have nd := List.nodup_append.mp nf
  let F' : Hp := fun b => if b ∈ f1 then H b else F b
  have in1 : ∀ b ∈ f1, F' b = H b := fun b hb => if_pos hb
  have out : ∀ b, b ∉ f1 → F' b = F b := fun b hb => if_neg hb
  have s1 : Same F F' := fun b x e => by
    have nb : b ∉ f1 := fun hb => by
      rw [d b (List.mem_append_left _ (List.mem_cons_of_mem _ hb))] at e
      cases e
    rw [out b nb]; exact e
  have rp : Rps Z F' ws (frzs ts) := Owns.frz s1 o1 in1
  refine ⟨a, ws, e1, e2, o1.length, fun vs' ds' k => ⟨(k F' rp).length, F', a :: f2, fun b x e => ?_, ?_, ?_, ?_⟩⟩
  · by_cases hb : b ∈ f1
    · rw [in1 b hb] at e; exact e
    · rw [out b hb] at e; exact s b x e
  · refine OwnR.append (own_all (k F' rp)) ⟨[a], f2, ⟨a, ws, [], e1, e2, OwnR.of (by rw [List.length_map, frzs_len]; exact o1.length) (own_all rp), rfl⟩, OwnR.stay s1 o2 fun _ _ => rfl, rfl⟩
  · exact List.nodup_cons.mpr ⟨fun hb => na (List.mem_append_right _ hb), nd.2.1⟩
  · intro b hb
    rcases List.mem_cons.mp hb with rfl | hb
    · rw [out _ fun h1 => na (List.mem_append_left _ h1)]
      exact d _ (List.mem_append_left _ (List.mem_cons_self ..))
    · rw [out b fun h1 => nd.2.2 b h1 b hb rfl]
      exact d b (List.mem_append_right _ hb)
variable {lo hi : Option Expr} {fl fh : M (Option Int)}
@[simp] def fSlL (i : Nat) (lo hi : M (Option Int)) (env : Env) : R T := match datOf env i with
  | some _ => (lo env).bind fun l e1 => (hi e1).bind fun u e2 => match e2[i]? with
    | some (some (.lst ts)) => .ok (.lst ((cutD (frzs ts) l u).map T.fz)) (e2.set i (some (.lst ((frzs ts).map T.fz))))
    | _ => .no
  | none => .no
theorem dsliceL (i : Nat) {x : Str} {ps : Pos} (hl : DO X G W lo fl) (hh : DO X G W hi fh) (hN : X.N[i]? = some x := by rfl) (hv : Vis X.env.scope x := by first | exact Or.inl rfl | exact Or.inr (Or.inl rfl) | exact Or.inr (Or.inr rfl)) (hd : (x == ("__debug__" : Str)) = false := by decide) (hcd : (x == ("__classdict__" : Str)) = false := by decide) :
    DE X G W (.Subscript (.Name x p) (.Slice lo hi none ps) pos) (fSlL i fl fh) := fun gd =>
  (pe_slice sl_list (pe_var hN hv hd hcd) (hl gd) (hh gd)).imp fun σ H Q ⟨env, ex, r, h⟩ => by
    unfold fSlL at h
    split at h
    · rename_i d0 e0
      obtain ⟨v, ev, _⟩ := r.dat e0
      refine ⟨v, ev, env, ex, r, aft_more (l := []) (aft_bind h) fun l e2 p2 H2 r2 => ?_⟩
      refine ⟨e2, ex, r2, aft_more (l := []) (aft_bind p2) fun u e3 p3 H3 r3 => ?_⟩
      split at p3
      · rename_i ts et
        obtain ⟨v', ev', r4⟩ := r3.take et
        rw [ev] at ev'
        cases ev'
        obtain ⟨a, vs, rfl, ha, hla, hk⟩ := r4.out1.lstKeep
        obtain ⟨hl2, ro⟩ := hk (cutV vs l u) (cutD (frzs ts) l u) fun F rp => rp.cut l u
        refine ⟨a, vs, rfl, SqL.of ha, fun q nq => ?_⟩
        have ro2 := Roots.newL (by rw [List.length_map]; exact hl2) ro nq
        have r5 : Rel G (upd H3 q (.lst (cutV vs l u))) σ (e3.set i none) ((V.ref a, .lst ((frzs ts).map T.fz)) :: (V.ref q, .lst ((cutD (frzs ts) l u).map T.fz)) :: ex) := by
          refine r4.back (l := [(V.ref a, .lst ((frzs ts).map T.fz)), (V.ref q, .lst ((cutD (frzs ts) l u).map T.fz))]) (ro2.perm ?_)
          exact .swap ..
        have r6 := r5.put ev
        rw [List.set_set] at r6
        exact p3 _ _ r6
      · exact p3.elim
    · exact h.elim
end
end DL

set_option maxHeartbeats 4000000
namespace DL
open PySem PySem.Spec PyProof.Rows L2
/-! ### C(x, ..) with lent arguments -/
@[simp] def retMkJ (js : List Nat) (e : Env) : RF → R T
  | .ok (.fz .non) (t :: us) => if us.length = js.length then .ok t (putJ js us e) else .no
  | .ex x (_ :: us) => if us.length = js.length then .ex x (putJ js us e) else .no
  | _ => .no
@[simp] def fMakeJ (c : Nat) (m : Mir) (js : List Nat) (src : List (Option Nat)) (fs : M (List T)) (env : Env) : R T := (fs env).bind fun ts e => retMkJ js e (m (.obj c [] [] :: frzA src ts))
theorem rd_makeJ {G : Sg} {W : WX} {σ : L2.St} {m : Mir} {n c : Nat} {js jo : List Nat} {src : List (Option Nat)} {ts : List T} {vs : List V} {Q : VK} {P : T → Env → Prop} {H : Hp} {e : Env} {ex : List (V × T)} (hP : ∀ t e H' v, P t e → Rel G H' σ e ((v, t) :: ex) → Q v H')
    (r : Rel G H σ e (vs.zip ts ++ ex)) (hl : vs.length = ts.length) (hn : vs.length + 1 = n) (hsrc : ∀ (k j : Nat), src[k]? = some (some j) → ∃ v, vs[k]? = some v ∧ σ[j]? = some (some v))
    (hj : jo.map (fun k => src.getD k none) = js.map some) (h : Aft (XOk G W σ ex) P (retMkJ js e (m (.obj c [] [] :: frzA src ts)))) (x dx : Addr) (nx : H x = none) (nd : H dx = none) (ne : dx ≠ x) :
    spOf G.Z n (0 :: jo.map (· + 1)) m (.ref x :: vs) (upd (upd H dx (.own x)) x (.ins (G.Z.C c) dx [])) (fun v H2 => v = .non ∧ Q (.ref x) H2) (fun cls d H' => W cls d σ H') := by
  refine ⟨.obj c [] [] :: frzA src ts, slots σ e ++ ex, by simpa using hn, by simp [frzA_len, ← hl, hn], Roots.newO (Roots.frzA r.out) nx nd ne, ?_⟩
  have jl : js.length = jo.length := by have := congrArg List.length hj; simpa using this.symm
  have eio : ioV (0 :: jo.map (· + 1)) (V.ref x :: vs) = V.ref x :: ioV jo vs := by
    unfold ioV
    simp [List.map_map, Function.comp_def]
  have hv : ∀ (k j : Nat), js[k]? = some j → ∃ v, (ioV jo vs)[k]? = some v ∧ σ[j]? = some (some v) := fun k j ek => by
    have e1 : (jo.map (fun k => src.getD k none))[k]? = some (some j) := by rw [hj, List.getElem?_map, ek]; rfl
    rw [List.getElem?_map] at e1
    obtain ⟨i, ei, e2⟩ := Option.map_eq_some_iff.mp e1
    have e3 : src[i]? = some (some j) := by
      rw [List.getD_eq_getElem?_getD] at e2
      cases q : src[i]? with
      | none => rw [q] at e2; cases e2
      | some o => rw [q] at e2; exact congrArg some e2
    obtain ⟨v, q1, q2⟩ := hsrc i j e3
    refine ⟨v, ?_, q2⟩
    unfold ioV
    rw [List.getElem?_map, ei]
    show some (vs.getD i .non) = some v
    rw [List.getD_eq_getElem?_getD, q1]
    rfl
  have back : ∀ {H' : Hp} {us : List T} {l : List (V × T)}, us.length = jo.length → Roots G.Z H' (l ++ ((ioV jo vs).zip us ++ (slots σ e ++ ex))) → Rel G H' σ (putJ js us e) (l ++ ex) := by
    intro H' us l hu q
    have q1 : Rel G H' σ e ((ioV jo vs).zip us ++ (l ++ ex)) := r.back (l := (ioV jo vs).zip us) (q.perm ((perm3 ..).trans (List.Perm.append_left _ (perm3 ..))))
    exact Rel.putJ q1 (by simp [ioV, hu]) (jl.trans hu.symm) hv
  cases em : m (.obj c [] [] :: frzA src ts) with
  | no => rw [em] at h; exact h.elim
  | ok t us =>
    rw [em] at h
    unfold retMkJ at h
    split at h
    · rename_i t' us' heq
      cases heq
      split at h
      · rename_i hu
        refine ⟨by simp [hu, jl], fun H' v q => ?_⟩
        rw [eio] at q
        exact ⟨q.fz, hP _ _ H' _ h (back (l := [(V.ref x, t')]) (hu.trans jl) q.drop)⟩
      · exact h.elim
    · rename_i heq; cases heq
    · exact h.elim
  | ex xx us =>
    rw [em] at h
    unfold retMkJ at h
    split at h
    · rename_i heq; cases heq
    · rename_i x' u' us' heq
      cases heq
      split at h
      · rename_i hu
        refine ⟨by simp [hu, jl], ?_⟩
        rw [eio]
        have h : XOk G W σ ex (putJ js us' e) xx := h
        unfold XOk at h
        unfold XF
        cases ed : xx.d with
        | none =>
          rw [ed] at h
          exact fun H' q => h H' (back (l := []) (hu.trans jl) q.drop)
        | some p =>
          rw [ed] at h
          refine fun H' dx' q => h H' dx' (back (l := [_]) (hu.trans jl) ?_)
          exact (q.perm (.swap ..)).drop
      · exact h.elim
    · exact h.elim
section
variable {X : Cx} {io0 : List Nat} {s0 : L2.St} {n : Nat} {C : Nat → Addr} {W : WX} {e o : Expr} {es : List Expr} {fs : M (List T)} {fo : M T} {src : List (Option Nat)} {k c : Nat} {ps : List Str} {m : Mir} {x : Str} {p pos apos : Pos}
theorem dmakeJ {io : List Nat} (js jo : List Nat) (F : Dm X.prog X.w X.K X.mg X.base C c "__init__" k ps io m) (M : MkC X.K X.mg C c x) (hr : Room (k + 1) X.A) (ha : DA X ⟨⟨X.K, C⟩, io0, s0, n, false⟩ W (e :: es) src fs) (hio : io = 0 :: jo.map (· + 1) := by rfl) (hj : jo.map (fun k => src.getD k none) = js.map some := by rfl) (hsl : src.length + 1 = ps.length := by rfl) (hg : Gl X x := by rfl)
    (hdb : (x == ("__debug__" : Str)) = false := by decide) (he : starEach (e :: es) X.env = (false, eval e X.env) :: starEach es X.env := by rfl) (hpl : (backTo pos (starEach es X.env)).any (·.1) = false := by rfl) :
    DE X ⟨⟨X.K, C⟩, io0, s0, n, false⟩ W (.Call (.Name x p) (e :: es) [] pos) (fMakeJ c m js src fs) := fun gd => by
  subst hio
  obtain ⟨f, fd, h1, h2, h3⟩ := F.ex
  refine ⟨fun pins s σ H Q I ⟨env, ex, r, h⟩ => ?_⟩
  refine wpAny_Call_Name_kw (ld_glob I hg M.gl ?_ hdb)
  have hA : rdA ⟨⟨X.K, C⟩, io0, s0, n, false⟩ W src fs σ H (fun vs H1 => ∀ x dx, H1 x = none → H1 dx = none → dx ≠ x → spOf ⟨X.K, C⟩ ps.length (0 :: jo.map (· + 1)) m (.ref x :: vs) (upd (upd H1 dx (.own x)) x (.ins (C c) dx [])) (fun v H2 => v = .non ∧ Q (.ref x) H2) (fun cls d H' => W cls d σ H')) :=
    ⟨env, ex, r, aft_more (l := []) (aft_bind h) fun ts e' p H2 vs hl hs hsrc r2 => rd_makeJ (G := ⟨⟨X.K, C⟩, io0, s0, n, false⟩) (P := fun t e => ∀ H' v, Rel _ H' σ e ((v, t) :: ex) → Q v H') (fun t e H' v q r' => q H' v r') r2 hl (by rw [hl, ← hs]; exact hsl) hsrc hj p⟩
  refine PySem.W.callWith_K (h₀ := X.base) I.ok.mod.kin M.kp (thn ((ha gd).run pos pins s σ H _ I hA) fun us s1 ⟨vs, H1, I1, rv, q⟩ => ⟨I1.kIn, ?_⟩) he hpl
  exact runMakeS (E := fun σ cls d H' => W cls d σ H') (M.of h1) h3 hr h2 (passAt gd.tk σ) I1 rv q
end
end DL

set_option maxHeartbeats 4000000
namespace DL
/-- fuel by the length of slot i's list -/
def fuelL (i : Nat) (e : Env) : Nat := match datOf e i with
  | some (.lst ds) => ds.length + 1
  | some (.tup ds) => ds.length + 1
  | _ => 0
end DL

set_option maxHeartbeats 4000000
namespace DL
open PySem PySem.Spec PyProof.Rows L2
/-! ### what the head finds of a class -/
def clsB (K : PySem.W.Frag) (C : Addr) (flds : List Str) : Bool := PySem.W.plainGet K C Str.empty && (PySem.W.hasDictIn K C && (PySem.W.plainOver K C && (decide (PySem.W.findIn K (.ref C) "__setattr__" = some (some (.builtin "object.__setattr__"))) && (PySem.W.makesIn K C && (PySem.W.keepIn K (.ref C) && (PySem.W.selfFirst K C &&
  ((tys7.all fun n => PySem.W.notFirst K C (.type n)) && flds.all fun f => decide (PySem.W.findIn K (.ref C) f = some none))))))))
structure CF (K : PySem.W.Frag) (mg : Str → Option Value) (C : Nat → Addr) (c : Nat) (x : Str) (flds : List Str) : Prop where
  cl : Cls K (C c)
  gl : mg x = some (.ref (C c))
  mks : PySem.W.makesIn K (C c) = true
  kp : PySem.W.keepIn K (.ref (C c)) = true
  sf : PySem.W.selfFirst K (C c) = true
  nf : ∀ n ∈ tys7, PySem.W.notFirst K (C c) (.type n) = true
  no : ∀ f ∈ flds, NoAttr K (C c) f
section
variable {K : PySem.W.Frag} {mg : Str → Option Value} {C : Nat → Addr} {c : Nat} {x : Str} {flds : List Str}
theorem CF.mkC (h : CF K mg C c x flds) : MkC K mg C c x := ⟨h.gl, h.mks, h.kp⟩
theorem CF.fld (h : CF K mg C c x flds) (f : Str) (hf : flds.contains f = true := by decide) : Fld K C c f := ⟨h.cl, h.no f (List.contains_iff_mem.mp hf)⟩
theorem clsB_ok (g : mg x = some (.ref (C c))) (h : clsB K (C c) flds = true) : CF K mg C c x flds := by
  unfold clsB at h
  simp only [Bool.and_eq_true, decide_eq_true_eq] at h
  obtain ⟨h1, h2, h3, h4, h5, h6, h7, h8, h9⟩ := h
  exact ⟨⟨h1, h2, h3, h4⟩, g, h5, h6, h7, fun n hn => List.all_eq_true.mp h8 n hn, fun f hf => (show PySem.W.findIn K (.ref (C c)) f = some none from of_decide_eq_true (List.all_eq_true.mp h9 f hf))⟩
end
def isiB2 (K : PySem.W.Frag) (as : List Addr) (cs : List Nat) (k : Nat) : Bool := (tys7.all fun n => decide (PySem.W.kitOne K (.type n) (.ref (as.getD k 0)) = some false)) && cs.all fun c => decide (PySem.W.kitOne K (.ref (as.getD c 0)) (.ref (as.getD k 0)) = some (decide (c = k))) &&
  (PySem.W.plainGet K (as.getD c 0) Str.empty && (PySem.W.hasDictIn K (as.getD c 0) && (PySem.W.plainOver K (as.getD c 0) && (decide (PySem.W.findIn K (.ref (as.getD c 0)) "__setattr__" = some (some (.builtin "object.__setattr__"))) && (decide (PySem.W.findIn K (.ref (as.getD c 0)) "__class__" = some (some (.builtin "object.__class__"))) &&
  (decide (PySem.W.specialIn K (.builtin "object.__class__") "__get__" = some (some (.builtin "getset_descriptor.__get__"))) && (decide (PySem.W.takesIn K (.builtin "object.__class__") = some true) && decide (PySem.W.mroIn K (as.getD c 0) (.type "object") = some true))))))))
theorem isiB2_ok {K : PySem.W.Frag} {as : List Addr} {cs : List Nat} {k : Nat} (h : isiB2 K as cs k = true) : IsiC K (fun i => as.getD i 0) cs k := by
  unfold isiB2 at h
  rw [Bool.and_eq_true] at h
  refine ⟨fun n hn => of_decide_eq_true (List.all_eq_true.mp h.1 n hn), fun c hc => ?_⟩
  have := List.all_eq_true.mp h.2 c hc
  simp only [Bool.and_eq_true, decide_eq_true_eq] at this
  obtain ⟨a, b1, b2, b3, b4, b5, b6, b7, b8⟩ := this
  exact ⟨a, ⟨b1, b2, b3, b4⟩, b5, b6, b7, b8⟩
/-- a method's def -/
def methB (K : PySem.W.Frag) (f : Addr) : Bool := PySem.W.isFn K (.ref f) && (PySem.W.keepIn K (.ref f) && PySem.W.fnIn K f)
theorem methB_ok {K : PySem.W.Frag} {f : Addr} (h : methB K f = true) : PySem.W.isFn K (.ref f) = true ∧ PySem.W.keepIn K (.ref f) = true ∧ PySem.W.fnIn K f = true := by
  unfold methB at h
  simp only [Bool.and_eq_true] at h
  exact ⟨h.1, h.2.1, h.2.2⟩
/-- where a method stands -/
structure Am (K : PySem.W.Frag) (C : Nat → Addr) (c : Nat) (x qual : Str) (st : Stmt) (ps : List Str) : Prop where
  ex : ∃ f fd, Meth K (C c) x f ∧ PySem.W.fnIn K f = true ∧ Fun K x qual st f fd ∧ Binds K fd ps []
structure Ac (K : PySem.W.Frag) (C : Nat → Addr) (c : Nat) (x qual : Str) (st : Stmt) (ps : List Str) : Prop where
  ex : ∃ mc p g fd, ClX.CRead K (C c) mc ∧ ClX.CMet K (C c) mc x p g ∧ Fun K x qual st g fd ∧ Binds K fd ps []
section
variable {P : Program} {w : World} {K : PySem.W.Frag} {mg : Str → Option Value} {base : Heap} {C : Nat → Addr} {c : Nat} {x qual : Str} {st : Stmt} {N ps : List Str} {k : Nat} {io : List Nat} {fb : MS}
theorem fn_q {f : Addr} {fd : FuncData} (F : Fun K x qual st f fd) (S : FnScope N ps (defScope st)) (hio : io.Nodup) (hib : ∀ j ∈ io, j < ps.length)
    (hbody : ∀ (f : Addr) (cdv : Value) (A : Around) (outer : List PySem.Env) (s : Shared) (H : Hp) (E : XK) (s0 : L2.St) (W : WX), Room k (A.deeper (envOfC qual (defScope st) s.heap.objs.size f cdv)) →
      DSs (cxOf (L2.CX P w) P w K mg base N qual (defScope st) f cdv A outer s H E) ⟨⟨K, C⟩, io, s0, N.length, false⟩ W (defBody st) fb) : FnOk P w K mg base (L2.CX P w) (k + 1) f fd ps (spOf ⟨K, C⟩ ps.length io (mirOf N.length io fb)) := by
  refine fn_d F S hio hib fun X G W hX hz hi hn hh => ?_
  obtain ⟨cdv, A, outer, s, H, E, rfl, hr⟩ := hX
  obtain ⟨Z, io', s0, n, hot⟩ := G
  cases hz
  cases hi
  cases hn
  cases hh
  exact hbody f cdv A outer s H E s0 W hr
theorem Dm.mk' (A : Am K C c x qual st ps) (S : FnScope N ps (defScope st)) (hio : io.Nodup) (hib : ∀ j ∈ io, j < ps.length)
    (hbody : ∀ (f : Addr) (cdv : Value) (A : Around) (outer : List PySem.Env) (s : Shared) (H : Hp) (E : XK) (s0 : L2.St) (W : WX), Room k (A.deeper (envOfC qual (defScope st) s.heap.objs.size f cdv)) →
      DSs (cxOf (L2.CX P w) P w K mg base N qual (defScope st) f cdv A outer s H E) ⟨⟨K, C⟩, io, s0, N.length, false⟩ W (defBody st) fb) : Dm P w K mg base C c x (k + 1) ps io (mirOf N.length io fb) := by
  obtain ⟨f, fd, h1, _, F, h2⟩ := A.ex
  exact ⟨f, fd, h1, h2, fn_q F S hio hib hbody⟩
theorem Do.mk' (A : Am K C c "__call__" qual st ps) (S : FnScope N ps (defScope st))
    (hbody : ∀ (f : Addr) (cdv : Value) (A : Around) (outer : List PySem.Env) (s : Shared) (H : Hp) (E : XK) (s0 : L2.St) (W : WX), Room k (A.deeper (envOfC qual (defScope st) s.heap.objs.size f cdv)) →
      DSs (cxOf (L2.CX P w) P w K mg base N qual (defScope st) f cdv A outer s H E) ⟨⟨K, C⟩, [], s0, N.length, false⟩ W (defBody st) fb) : Do P w K mg base C c (k + 1) ps (mirOf N.length [] fb) := by
  obtain ⟨f, fd, h1, h0, F, h2⟩ := A.ex
  exact ⟨f, fd, ⟨h1.at_, h1.fn, h0⟩, h2, fn_q F S (by decide) (by simp) hbody⟩
theorem Dc.mk' (A : Ac K C c x qual st ps) (S : FnScope N ps (defScope st))
    (hbody : ∀ (f : Addr) (cdv : Value) (A : Around) (outer : List PySem.Env) (s : Shared) (H : Hp) (E : XK) (s0 : L2.St) (W : WX), Room k (A.deeper (envOfC qual (defScope st) s.heap.objs.size f cdv)) →
      DSs (cxOf (L2.CX P w) P w K mg base N qual (defScope st) f cdv A outer s H E) ⟨⟨K, C⟩, [], s0, N.length, false⟩ W (defBody st) fb) : Dc P w K mg base C c x (k + 1) ps (mirOf N.length [] fb) := by
  obtain ⟨mc, p, g, fd, h0, h1, F, h2⟩ := A.ex
  exact ⟨mc, p, g, fd, h0, h1, h2, fn_q F S (by decide) (by simp) hbody⟩
/-- a method by what the head finds -/
theorem am_mk {f : Addr} {od an : Option Addr} {sl : Array (Option Value)} {oc kV dc pm cd ct : Value} (a : PySem.W.findIn K (.ref (C c)) x = some (some (.ref f)))
    (l : K.lookup f = some ⟨oc, od, .func (PySem.W.fnOf x qual (defArgs st) (defBody st) (defScope st) .none kV dc pm an cd ct), sl⟩) (cI : PySem.W.codeIn K cd qual = true) (b : methB K f = true)
    (hb : ∀ (kV doc pm : Value) (an : Option Addr) (cdv ct : Value) (us : List Value), us.length = ps.length → bindArgs (PySem.W.fnOf x qual (defArgs st) (defBody st) (defScope st) .none kV doc pm an cdv ct) ⟨us, []⟩ = pure (ps.zip us)) : Am K C c x qual st ps := by
  obtain ⟨b1, b2, b3⟩ := methB_ok b
  exact ⟨f, _, ⟨a, b1, b2⟩, b3, fun_mk l cI b2, (fun_mk (st := st) l cI b2).binds hb⟩
def crB (K : PySem.W.Frag) (C : Addr) : Bool := PySem.W.readsIn K C (.type "type") && decide (PySem.W.specialIn K (.ref C) "__getattribute__" = some (some (.builtin "type.__getattribute__")))
theorem ac_mk {p f : Addr} {rest : List Value} {od an : Option Addr} {sl : Array (Option Value)} {oc kV dc pm cd ct : Value} (r : crB K (C c) = true) (a : PySem.W.findCls K (.ref (C c)) (.type "type") x = some (.get (.builtin "classmethod.__get__") (.ref p) .none (.ref (C c)))) (rc : PySem.W.recIn K p "classmethod" = some (.ref f :: rest))
    (l : K.lookup f = some ⟨oc, od, .func (PySem.W.fnOf x qual (defArgs st) (defBody st) (defScope st) .none kV dc pm an cd ct), sl⟩) (cI : PySem.W.codeIn K cd qual = true) (b : methB K f = true)
    (hb : ∀ (kV doc pm : Value) (an : Option Addr) (cdv ct : Value) (us : List Value), us.length = ps.length → bindArgs (PySem.W.fnOf x qual (defArgs st) (defBody st) (defScope st) .none kV doc pm an cdv ct) ⟨us, []⟩ = pure (ps.zip us)) : Ac K C c x qual st ps := by
  obtain ⟨b1, b2, b3⟩ := methB_ok b
  unfold crB at r
  simp only [Bool.and_eq_true, decide_eq_true_eq] at r
  exact ⟨_, p, f, _, ⟨r.1, r.2⟩, ⟨a, ⟨rest, rc⟩, b3⟩, fun_mk l cI b2, (fun_mk (st := st) l cI b2).binds hb⟩
end
end DL

set_option maxHeartbeats 1000000
namespace DL
open PySem L2
/-! ### sizes of numbers -/
def Bd (k : Nat) (x : Int) : Prop := x.natAbs < 2 ^ k
theorem Bd.mono {a b : Nat} {x : Int} (h : Bd a x) (hab : a ≤ b) : Bd b x := Nat.lt_of_lt_of_le h (Nat.pow_le_pow_right (by decide) hab)
theorem Bd.add {a : Nat} {x y : Int} (hx : Bd a x) (hy : Bd a y) : Bd (a + 1) (x + y) := by
  unfold Bd at *
  have := Int.natAbs_add_le x y
  rw [Nat.pow_succ]
  omega
theorem Bd.neg {a : Nat} {x : Int} (hx : Bd a x) : Bd a (-x) := by unfold Bd at *; rwa [Int.natAbs_neg]
theorem Bd.sub {a : Nat} {x y : Int} (hx : Bd a x) (hy : Bd a y) : Bd (a + 1) (x - y) := by
  rw [Int.sub_eq_add_neg]; exact hx.add hy.neg
theorem Bd.mul {a b : Nat} {x y : Int} (hx : Bd a x) (hy : Bd b y) : Bd (a + b) (x * y) := by
  unfold Bd at *
  rw [Int.natAbs_mul, Nat.pow_add]
  exact Nat.mul_lt_mul_of_lt_of_le hx (Nat.le_of_lt hy) (Nat.pow_pos (by decide))
theorem Bd.zero (a : Nat) : Bd a 0 := Nat.pow_pos (by decide)
theorem Bd.mulOk {a b : Nat} {x y : Int} (hx : Bd a x) (hy : Bd b y) (h : a + b < 134000000) : mulOk x y = true := mulOk_of (sz_le hx) (sz_le hy) h
theorem Bd.of {a : Nat} {x l : Int} (h0 : 0 ≤ x) (h : x ≤ l) (hl : Bd a l) : Bd a x := by unfold Bd at *; omega
/-! ### lists of ints -/
abbrev dI (xs : List Int) : List D := xs.map D.int
abbrev lI (xs : List Int) : D := .lst (xs.map D.int)
abbrev tI (xs : List Int) : D := .tup (xs.map D.int)
theorem frzs_fz : ∀ ds : List D, frzs (ds.map T.fz) = ds
  | [] => rfl
  | _ :: ds => congrArg (_ :: ·) (frzs_fz ds)
@[simp] theorem frzs_map {α : Type} (f : α → D) : ∀ xs : List α, frzs (xs.map fun x => T.fz (f x)) = xs.map f
  | [] => rfl
  | x :: xs => congrArg (_ :: ·) (frzs_map f xs)
@[simp] theorem frzs_comp {α : Type} (f : α → D) : ∀ xs : List α, frzs (xs.map (T.fz ∘ f)) = xs.map f
  | [] => rfl
  | x :: xs => congrArg (_ :: ·) (frzs_comp f xs)
theorem rangeD_succ (lo : Int) (n : Nat) : rangeD lo (n + 1) = .int lo :: rangeD (lo + 1) n := by
  unfold rangeD
  rw [List.range_succ_eq_map, List.map_cons, List.map_map]
  congr 1
  · simp
  · apply List.map_congr_left
    intro i _
    simp only [Function.comp_apply]
    congr 1
    omega
theorem range1_nat {n : Nat} (h : n < 2 ^ 62) : range1D [.int (n : Int)] = some (rangeD 0 n) := by
  have rg : rgOk (n : Int) = true := rgOk_of (by omega)
  rw [range1D, if_pos rg]
  rfl
theorem range2_nat {i j : Nat} (h1 : i < 2 ^ 62) (h2 : j < 2 ^ 62) : range2D [.int (i : Int), .int (j : Int)] = some (rangeD i (j - i)) := by
  have r1 : rgOk (i : Int) = true := rgOk_of (by omega)
  have r2 : rgOk (j : Int) = true := rgOk_of (by omega)
  have r : (rgOk (i : Int) && rgOk (j : Int)) = true := by rw [r1, r2]; rfl
  rw [range2D, if_pos r]
  have : ((j : Int) - (i : Int)).toNat = j - i := by omega
  rw [this]
theorem rangeD_zero (lo : Int) : rangeD lo 0 = [] := rfl
/-! ### comprehensions -/
theorem loopC_map {set : T → Env → Option Env} {tst : M Bool} {elt : M T} {vs : List Nat} {g : D → T} {env : Env} : ∀ (ds : List D) (acc : List T),
    (∀ d ∈ ds, ∃ e1 e2 e3, set (.fz d) env = some e1 ∧ tst e1 = .ok true e2 ∧ elt e2 = .ok (g d) e3 ∧ wipeE e3 vs = env) → acc.length + ds.length ≤ sizeLine →
    loopC set tst elt vs ds acc env = .ok (acc ++ ds.map g) env
  | [], acc, _, _ => by simp [loopC]
  | d :: ds, acc, h, hl => by
    obtain ⟨e1, e2, e3, h1, h2, h3, h4⟩ := h d (List.mem_cons_self ..)
    have ih := loopC_map ds (acc ++ [g d]) (fun x hx => h x (List.mem_cons_of_mem _ hx)) (by simp at hl ⊢; omega)
    have hlt : acc.length < sizeLine := by simp at hl; omega
    simp only [loopC, h1, h2, h3, h4, if_pos hlt, ih]
    simp
theorem loopC_filter {set : T → Env → Option Env} {tst : M Bool} {elt : M T} {vs : List Nat} {g : D → T} {p : D → Bool} {env : Env} : ∀ (ds : List D) (acc : List T),
    (∀ d ∈ ds, ∃ e1 e2, set (.fz d) env = some e1 ∧ tst e1 = .ok (p d) e2 ∧ (p d = true → ∃ e3, elt e2 = .ok (g d) e3 ∧ wipeE e3 vs = env) ∧ (p d = false → wipeE e2 vs = env)) → acc.length + ds.length ≤ sizeLine →
    loopC set tst elt vs ds acc env = .ok (acc ++ (ds.filter p).map g) env
  | [], acc, _, _ => by simp [loopC]
  | d :: ds, acc, h, hl => by
    obtain ⟨e1, e2, h1, h2, h3, h4⟩ := h d (List.mem_cons_self ..)
    have hlt : acc.length < sizeLine := by simp at hl; omega
    cases hp : p d with
    | true =>
      obtain ⟨e3, h5, h6⟩ := h3 hp
      have ih := loopC_filter ds (acc ++ [g d]) (fun x hx => h x (List.mem_cons_of_mem _ hx)) (by simp at hl ⊢; omega)
      rw [hp] at h2
      simp only [loopC, h1, h2, h5, h6, if_pos hlt, ih, List.filter_cons, hp, if_true]
      simp
    | false =>
      have h6 := h4 hp
      have ih := loopC_filter ds acc (fun x hx => h x (List.mem_cons_of_mem _ hx)) (by simp at hl ⊢; omega)
      rw [hp] at h2
      simp only [loopC, h1, h2, h6, ih, List.filter_cons, hp]
      simp
/-! ### draws -/
/-- numbers below their sizes -/
def Dr : List Int → List Int → Prop
  | [], [] => True
  | d :: ds, s :: ss => (0 ≤ d ∧ d < s) ∧ Dr ds ss
  | _, _ => False
theorem Dr.length : ∀ {ds ss : List Int}, Dr ds ss → ds.length = ss.length
  | [], [], _ => rfl
  | _ :: _, _ :: _, h => congrArg (· + 1) (Dr.length h.2)
  | [], _ :: _, h => h.elim
  | _ :: _, [], h => h.elim
theorem Dr.snoc : ∀ {ds ss : List Int} {d s : Int}, Dr ds ss → 0 ≤ d → d < s → Dr (ds ++ [d]) (ss ++ [s])
  | [], [], _, _, _, h1, h2 => ⟨⟨h1, h2⟩, trivial⟩
  | _ :: _, _ :: _, _, _, h, h1, h2 => ⟨h.1, Dr.snoc h.2 h1 h2⟩
  | [], _ :: _, _, _, h, _, _ => h.elim
  | _ :: _, [], _, _, h, _, _ => h.elim
theorem Dr.rep {ds : List Int} {n : Nat} {l : Int} (h : Dr ds (List.replicate n l)) : ds.length = n ∧ ∀ d ∈ ds, 0 ≤ d ∧ d < l := by
  induction n generalizing ds with
  | zero =>
    cases ds with
    | nil => exact ⟨rfl, by simp⟩
    | cons => exact h.elim
  | succ n ih =>
    cases ds with
    | nil => exact h.elim
    | cons d ds =>
      obtain ⟨i1, i2⟩ := ih h.2
      refine ⟨congrArg (· + 1) i1, fun x hx => ?_⟩
      rcases List.mem_cons.mp hx with rfl | hx
      · exact h.1
      · exact i2 x hx
def b__law_draws_f0 : MS := fIfS (fTestB (fBin gGe (fCB (g1 gAbs) (fCons (fVar 0) (fNil))) (fBin gPow (fC (.int 10)) (fC (.int 18))))) (fSeq (fExpr (fAppend 2 (fBin gMod (fCB (g1 gInt) (fCons (fVar 3) (fNil))) (fPeek 1 (fVar 4))))) (fSet 3 (fBin gFdiv (fVar 3) (fPeek 1 (fVar 4))))) (fSeq (fSet 5 (fBin gMod (fCB (g1 gInt) (fCons (fBin gMul (fBin gAdd2 (fBin gAdd2 (fVar 3) (fBin gMul (fC (.int 11)) (fVar 4))) (fC (.int 3))) (fC (.int 48271))) (fNil))) (fC (.int 2147483647)))) (fSeq (fSet 5 (fBin gMod (fCB (g1 gInt) (fCons (fBin gAdd2 (fBin gAdd2 (fBin gMul (fBin gMul (fVar 5) (fVar 5)) (fC (.int 16807))) (fBin gMul (fC (.int 97)) (fVar 4))) (fVar 5)) (fNil))) (fC (.int 2147483629)))) (fExpr (fAppend 2 (fBin gMod (fBin gFdiv (fVar 5) (fC (.int 5))) (fPeek 1 (fVar 4)))))))
def b__law_draws : MS := fSeq (fSet 2 (fLst (fNil))) (fSeq (fSet 3 (fCB (g1 gAbs) (fCons (fVar 0) (fNil)))) (fSeq (fFor (iArgs range1D (fCons (fCB (g1 gLen) (fCons (fVar 1) (fNil))) (fNil))) (sName 4) b__law_draws_f0) (fRet (fVar 2))))
def m__law_draws : Mir := mirOf 6 [] b__law_draws

def b__law_row_e0 : M T := fBin gSub (fVar 4) (fVar 2)
def b__law_row : MS := fSeq (fSet 3 (fCall m__law_draws [] [none, none] (fCons (fVar 0) (fCons (fRep (fLst (fCons (fBin gAdd2 (fBin gMul (fC (.int 2)) (fVar 2)) (fC (.int 1))) (fNil))) (fVar 1)) (fNil))))) (fRet (fLc (iSeq (fVar 3)) (sName 4) (fYes) b__law_row_e0 [4]))
def m__law_row : Mir := mirOf 5 [] b__law_row

def b__law_plain_c0 : M Bool := fAnd (fTestB (fBin (gEq2 true) (fVar 0) (fLst (fNil)))) (fTestB (fBin (gEq2 false) (fPeek 0 (fUn gNeg (fC (.int 1)))) (fC (.int 0))))
def b__law_plain_w0 : MS := fSet 0 (fSl (fVar 0) fNoP (fPt (fUn gNeg (fC (.int 1)))))
def b__law_plain : MS := fSeq (fSet 0 (fCB (g1 gList) (fCons (fVar 0) (fNil)))) (fSeq (fWhile (fuelL 0) b__law_plain_c0 b__law_plain_w0) (fRet (fVar 0)))
def m__law_plain : Mir := mirOf 1 [] b__law_plain

def b__law_is_integer : MS := fRet (fAndV (fCB (g2 gIsi) (fCons (fVar 0) (fCons (fC (.ty "int")) (fNil)))) (fNotV (fCB (g2 gIsi) (fCons (fVar 0) (fCons (fC (.ty "bool")) (fNil))))))
def m__law_is_integer : Mir := mirOf 1 [] b__law_is_integer

theorem is_integer_int (n : Int) : m__law_is_integer [.fz (.int n)] = .ok (.fz (.bl true)) [] := by simp [m__law_is_integer, b__law_is_integer, isiB]
theorem fdiv_bd {k : Nat} {x l : Int} (h0 : 0 ≤ x) (hx : Bd k x) (hl : 0 < l) : 0 ≤ x.fdiv l ∧ Bd k (x.fdiv l) := by
  rw [Int.fdiv_eq_ediv_of_nonneg x (Int.le_of_lt hl)]
  have h1 : 0 ≤ x / l := Int.ediv_nonneg h0 (by omega)
  have h2 : x / l ≤ x := Int.ediv_le_self l h0
  exact ⟨h1, Bd.of h1 h2 hx⟩
theorem turn_draws {c : Int} {ss : List Int} {k : Nat} {l : Int} {ds : List Int} {left : Int} (hk : ss[k]? = some l) (hl : 0 < l) (hz : sz l < 9000) (hb : Bd 1048577 left) (h0 : 0 ≤ left) (hks : k < 2 ^ 20) (hds : ds.length < 2 ^ 20) (O : Option T) :
    ∃ d left' O', 0 ≤ d ∧ d < l ∧ Bd 1048577 left' ∧ 0 ≤ left' ∧ b__law_draws_f0 [some (.fz (.int c)), some (.fz (lI ss)), some (.lst ((dI ds).map T.fz)), some (.fz (.int left)), some (.fz (.int (k : Int))), O] =
      .nx [some (.fz (.int c)), some (.fz (lI ss)), some (.lst ((dI (ds ++ [d])).map T.fz)), some (.fz (.int left')), some (.fz (.int (k : Int))), O'] := by
  have pw : powOk 10 18 = true := by decide
  have dv : divOk left l = true := by unfold divOk; exact decide_eq_true ⟨by omega, hz⟩
  have pk : atI (ss.map D.int) (k : Int) = some (.int l) := atI_nat (by rw [List.getElem?_map, hk]; rfl)
  have sl : ds.length < sizeLine := Nat.lt_of_lt_of_le hds (by decide)
  have hl0 : l ≠ 0 := by omega
  have ab : ∀ x : Int, (if x < 0 then -x else x) = (x.natAbs : Int) := abs_if
  by_cases hc : (10 : Int) ^ 18 ≤ (c.natAbs : Int)
  · obtain ⟨q1, q2⟩ := fdiv_bd h0 hb hl
    refine ⟨left.fmod l, left.fdiv l, O, (fmod_nonneg_lt hl).1, (fmod_nonneg_lt hl).2, q2, q1, ?_⟩
    have hc' : (1000000000000000000 : Int) ≤ (c.natAbs : Int) := hc
    simp [b__law_draws_f0, pw, ab, hc', dv, pk, sl, hl0]
  · have hk' : Bd 20 (k : Int) := by unfold Bd; omega
    have m1 : mulOk 11 (k : Int) = true := Bd.mulOk (a := 10) (by unfold Bd; decide) hk' (by decide)
    have m5 : mulOk 97 (k : Int) = true := Bd.mulOk (a := 10) (by unfold Bd; decide) hk' (by decide)
    have s1 : Bd 1048579 (left + 11 * (k : Int) + 3) := (((hb.add ((Bd.mul (a := 10) (x := 11) (by unfold Bd; decide) hk').mono (by decide))).add (Bd.mono (a := 10) (by unfold Bd; decide) (by decide))))
    have m2 : mulOk (left + 11 * (k : Int) + 3) 48271 = true := Bd.mulOk (b := 20) s1 (by unfold Bd; decide) (by decide)
    obtain ⟨u, hu⟩ : ∃ u, ((left + 11 * (k : Int) + 3) * 48271).fmod 2147483647 = u := ⟨_, rfl⟩
    have bu := fmod_nonneg_lt (x := (left + 11 * (k : Int) + 3) * 48271) (l := 2147483647) (by decide)
    rw [hu] at bu
    have b1 : Bd 32 u := by unfold Bd; omega
    have m3 : mulOk u u = true := Bd.mulOk b1 b1 (by decide)
    have m4 : mulOk (u * u) 16807 = true := Bd.mulOk (b := 20) (b1.mul b1) (by unfold Bd; decide) (by decide)
    have d5 : ∀ x : Int, divOk x 5 = true := fun x => decide_eq_true ⟨by decide, by decide⟩
    have hc' : ¬ (1000000000000000000 : Int) ≤ (c.natAbs : Int) := hc
    refine ⟨(((u * u * 16807 + 97 * (k : Int) + u).fmod 2147483629).fdiv 5).fmod l, left, some (.fz (.int ((u * u * 16807 + 97 * (k : Int) + u).fmod 2147483629))), (fmod_nonneg_lt hl).1, (fmod_nonneg_lt hl).2, hb, h0, ?_⟩
    simp [b__law_draws_f0, pw, ab, hc', dv, pk, sl, hl0, m1, m2, m3, m4, m5, hu, d5]
theorem loop_draws {c : Int} {ss : List Int} (hs : ∀ l ∈ ss, 0 < l ∧ sz l < 9000) (hn : ss.length < 2 ^ 20) : ∀ (m k : Nat) (ds : List Int) (left : Int) (O4 O : Option T), k + m = ss.length → Dr ds (ss.take k) → Bd 1048577 left → 0 ≤ left →
    ∃ ds' left' O4' O', Dr ds' ss ∧ loopF (sName 4) b__law_draws_f0 (rangeD k m) [some (.fz (.int c)), some (.fz (lI ss)), some (.lst ((dI ds).map T.fz)), some (.fz (.int left)), O4, O] =
      .nx [some (.fz (.int c)), some (.fz (lI ss)), some (.lst ((dI ds').map T.fz)), some (.fz (.int left')), O4', O']
  | 0, k, ds, left, O4, O, hk, hd, _, _ => ⟨ds, left, O4, O, by rw [List.take_of_length_le (by omega)] at hd; exact hd, rfl⟩
  | m + 1, k, ds, left, O4, O, hk, hd, hb, h0 => by
    have hlt : k < ss.length := by omega
    have hg : ss[k]? = some ss[k] := List.getElem?_eq_getElem hlt
    obtain ⟨h1, h2⟩ := hs ss[k] (List.getElem_mem hlt)
    have dl : ds.length = k := by rw [hd.length, List.length_take]; omega
    obtain ⟨d, left', O', a1, a2, a3, a4, e⟩ := turn_draws (c := c) (ds := ds) (O := O) hg h1 h2 hb h0 (by omega) (by omega)
    have hd' : Dr (ds ++ [d]) (ss.take (k + 1)) := by
      rw [List.take_succ, hg]
      exact hd.snoc a1 a2
    obtain ⟨ds', l', o4, o, q1, q2⟩ := loop_draws hs hn m (k + 1) (ds ++ [d]) left' (some (.fz (.int (k : Int)))) O' (by omega) hd' a3 a4
    refine ⟨ds', l', o4, o, q1, ?_⟩
    rw [rangeD_succ]
    refine (loopF_go (e := [some (.fz (.int c)), some (.fz (lI ss)), some (.lst ((dI ds).map T.fz)), some (.fz (.int left)), some (.fz (.int (k : Int))), O]) (by simp) e).trans ?_
    exact q2
theorem draws_ex {c : Int} {ss : List Int} (hc : Bd 1048576 c) (hs : ∀ l ∈ ss, 0 < l ∧ sz l < 9000) (hn : ss.length < 2 ^ 20) : ∃ ds, Dr ds ss ∧ m__law_draws [.fz (.int c), .fz (lI ss)] = .ok (.fz (lI ds)) [] := by
  have hb : Bd 1048577 (c.natAbs : Int) := by
    have h := hc.mono (b := 1048577) (by decide)
    unfold Bd at *
    rw [Int.natAbs_natCast]
    exact h
  clear hc
  obtain ⟨ds, l', o4, o, q1, q2⟩ := loop_draws (c := c) hs hn ss.length 0 [] (c.natAbs : Int) none none (Nat.zero_add _) (by simp [Dr]) hb (Int.natCast_nonneg _)
  clear hb
  refine ⟨ds, q1, ?_⟩
  have rg := range1_nat (n := ss.length) (by omega)
  simp at q2
  simp [m__law_draws, b__law_draws, abs_if, rg, q2]
end DL

set_option maxHeartbeats 4000000
namespace DL
open PySem PySem.Spec PyProof.Rows L2 StX
section
variable {P : Program} {w : World} {K : PySem.W.Frag} {mg : Str → Option Value} {base : Heap}
/-- a def's body by its function (the core of fn_d) -/
theorem body_d {qual : Str} {st : Stmt} {f : Addr} {N ps : List Str} {k : Nat} {C : Nat → Addr} {io : List Nat} {fb : MS} (S : FnScope N ps (defScope st)) (hio : io.Nodup) (hib : ∀ j ∈ io, j < ps.length)
    (hbody : ∀ (cdv : Value) (A : Around) (outer : List PySem.Env) (s : Shared) (H : Hp) (E : XK) (s0 : L2.St) (W : WX), Room k (A.deeper (envOfC qual (defScope st) s.heap.objs.size f cdv)) →
      DSs (cxOf (L2.CX P w) P w K mg base N qual (defScope st) f cdv A outer s H E) ⟨⟨K, C⟩, io, s0, N.length, false⟩ W (defBody st) fb)
    (cdv : Value) (A : Around) (outer : List PySem.Env) (s : Shared) (H : Hp) (vs : List V) (Q : VK) (E : XK) (hr : Room k (A.deeper (envOfC qual (defScope st) s.heap.objs.size f cdv))) (h : spOf ⟨K, C⟩ ps.length io (mirOf N.length io fb) vs H Q E) :
    ∃ t, PSs (cxOf (L2.CX P w) P w K mg base N qual (defScope st) f cdv A outer s H E) (defBody st) t ∧ t { nx := fun _ H' => Q .non H', rt := Q } (start N vs) H := by
  obtain ⟨ts, ex, hl, ht, ro, h⟩ := h
  have hpl : ps.length ≤ N.length := by have := congrArg List.length S.pre; rw [List.length_take] at this; omega
  let G : Sg := ⟨⟨K, C⟩, io, start N vs, N.length, false⟩
  let W : WX := fun cls d σ H => E cls d H
  let X := cxOf (L2.CX P w) P w K mg base N qual (defScope st) f cdv A outer s H E
  have gd : Good X G W := ⟨rfl, takes_of (X := X) rfl rfl rfl rfl, fun _ => rfl, S.nd, passes_of (X := X) rfl⟩
  refine ⟨rdS G W fb, hbody cdv A outer s H E _ W hr gd, ?_⟩
  obtain ⟨ft, fl⟩ := fit_start (N := N) (hl.trans ht.symm) (by omega)
  have rel : Rel G H (start N vs) (startE N.length ts) ex := ⟨ft, ⟨fl, fun _ _ => rfl⟩, by
    rw [slots_start (hl.trans ht.symm)]
    exact ro⟩
  refine ⟨_, ex, rel, ?_⟩
  have key : ∀ {σ' : L2.St} {H' : Hp} {e : Env} {us : List T} {l : List (V × T)}, Rel G H' σ' e (l ++ ex) → outs io e = some us → Roots ⟨K, C⟩ H' (l ++ ((ioV io vs).zip us ++ ex)) := by
    intro σ' H' e us l r ho
    obtain ⟨e', r2⟩ := r.outs (vs := ioV io vs) hio ho (by simp [ioV]) fun k j ek => by
      obtain ⟨v, h1, h2⟩ := ioV_get (N := N) (vs := vs) (fun k hk => by rw [hl]; exact hib k hk) k j ek
      exact ⟨v, h1, (r.2.1.2 j (List.mem_of_getElem? ek)).trans h2⟩
    have r3 : Rel G H' σ' e' (l ++ ((ioV io vs).zip us ++ ex)) := r2.perm (perm3 ..)
    exact r3.2.2.drops
  have h : AftF ⟨K, C⟩ Q E io vs ex (finF io (fb (startE N.length ts))) := h
  cases e1 : fb (startE N.length ts) with
  | nx e =>
    rw [e1] at h
    intro σ' H' r
    cases ho : outs io e with
    | none => simp only [finF, ho] at h; exact h.elim
    | some us =>
      simp only [finF, ho] at h
      exact h.2 H' .non (Roots.add (key (l := []) r ho) fun _ => rfl)
  | rt t e =>
    rw [e1] at h
    intro σ' H' v r
    cases ho : outs io e with
    | none => simp only [finF, ho] at h; exact h.elim
    | some us =>
      simp only [finF, ho] at h
      exact h.2 H' v (key (l := [(v, t)]) r ho)
  | bk e => rw [e1] at h; exact h.elim
  | ct e => rw [e1] at h; exact h.elim
  | ex x e =>
    rw [e1] at h
    intro σ'
    cases ho : outs io e with
    | none => simp only [finF, ho] at h; exact h.elim
    | some us =>
      simp only [finF, ho] at h
      have h2 := h.2
      unfold XOk
      unfold XF at h2
      cases ed : x.d with
      | none =>
        rw [ed] at h2
        exact fun H' r => h2 H' (key (l := []) r ho)
      | some p =>
        rw [ed] at h2
        exact fun H' dx r => h2 H' dx (key (l := [_]) r ho)
  | no => rw [e1] at h; exact h.elim
end
/-! ### classmethods with a star parameter -/
def spStar (Z : Wd) (n : Nat) (m : Mir) : Sp := fun vs H Q E => ∃ ws rest, vs = ws ++ rest ∧ ws.length = n ∧ rest.length ≤ sizeLine ∧ ∀ p, H p = Option.none → spOf Z (n + 1) [] m (ws ++ [V.ref p]) (upd H p (.tup rest)) Q E
structure Dcs (P : Program) (w : World) (K : PySem.W.Frag) (mg : Str → Option Value) (base : Heap) (C : Nat → Addr) (c : Nat) (x : Str) (k : Nat) (m : Mir) : Prop where
  ex : ∃ mc p g, ClX.CRead K (C c) mc ∧ ClX.CMet K (C c) mc x p g ∧ FnR P w K mg base (L2.CX P w) k g (spStar ⟨K, C⟩ 1 m)
/-- where such a def stands -/
structure Acs (K : PySem.W.Frag) (C : Nat → Addr) (c : Nat) (x qual : Str) (st : Stmt) (p1 pv : Str) : Prop where
  ex : ∃ mc p g fd, ClX.CRead K (C c) mc ∧ ClX.CMet K (C c) mc x p g ∧ Fun K x qual st g fd ∧ ∀ us rest : List Value, us.length = [p1].length → bindArgs fd ⟨us ++ rest, []⟩ = (newTuple rest >>= fun t => pure ([p1].zip us ++ [(pv, t)]))
section
variable {P : Program} {w : World} {K : PySem.W.Frag} {mg : Str → Option Value} {base : Heap} {C : Nat → Addr} {c : Nat} {x qual : Str} {st : Stmt} {N : List Str} {p1 pv : Str} {k : Nat} {fb : MS}
theorem Dcs.mk' (A : Acs K C c x qual st p1 pv) (S : FnScope N [p1, pv] (defScope st))
    (hbody : ∀ (f : Addr) (cdv : Value) (A : Around) (outer : List PySem.Env) (s : Shared) (H : Hp) (E : XK) (s0 : L2.St) (W : WX), Room k (A.deeper (envOfC qual (defScope st) s.heap.objs.size f cdv)) →
      DSs (cxOf (L2.CX P w) P w K mg base N qual (defScope st) f cdv A outer s H E) ⟨⟨K, C⟩, [], s0, N.length, false⟩ W (defBody st) fb) : Dcs P w K mg base C c x (k + 1) (mirOf N.length [] fb) := by
  obtain ⟨mc, p, g, fd, h0, h1, F, hb⟩ := A.ex
  obtain ⟨oc, od, kV, doc, pm, an, cdv, ct, osl, rfl, lk, hcd⟩ := F.ex
  exact ⟨mc, p, g, h0, h1, fn_star (ps := [p1]) (pv := pv) lk hcd S cxUp hb fun A outer s H vs Q E hr h => body_d (io := []) S (by decide) (by simp) (hbody g) cdv A outer s H vs Q E hr h⟩
theorem acs_mk {p f : Addr} {rest : List Value} {od an : Option Addr} {sl : Array (Option Value)} {oc kV dc pm cd ct : Value} (r : crB K (C c) = true) (a : PySem.W.findCls K (.ref (C c)) (.type "type") x = some (.get (.builtin "classmethod.__get__") (.ref p) .none (.ref (C c)))) (rc : PySem.W.recIn K p "classmethod" = some (.ref f :: rest))
    (l : K.lookup f = some ⟨oc, od, .func (PySem.W.fnOf x qual (defArgs st) (defBody st) (defScope st) .none kV dc pm an cd ct), sl⟩) (cI : PySem.W.codeIn K cd qual = true) (b : methB K f = true)
    (hb : ∀ us rest : List Value, us.length = [p1].length → bindArgs (PySem.W.fnOf x qual (defArgs st) (defBody st) (defScope st) .none kV dc pm an cd ct) ⟨us ++ rest, []⟩ = (newTuple rest >>= fun t => pure ([p1].zip us ++ [(pv, t)]))) : Acs K C c x qual st p1 pv := by
  obtain ⟨b1, b2, b3⟩ := methB_ok b
  unfold crB at r
  simp only [Bool.and_eq_true, decide_eq_true_eq] at r
  exact ⟨_, p, f, _, ⟨r.1, r.2⟩, ⟨a, ⟨rest, rc⟩, b3⟩, fun_mk l cI b2, hb⟩
end
section
variable {X : Cx} {W : WX} {io0 : List Nat} {s0 : L2.St} {n : Nat} {C : Nat → Addr} {c k : Nat} {x : Str} {m : Mir} {o e : Expr} {es : List Expr} {fo : M T} {fs : M (List T)} {src : List (Option Nat)} {pos apos : Pos}
theorem run_fnRC {CX : CXT} {E : L2.St → XK} {f : Addr} {sp : Sp} {A' : Around} (hA : A'.frames = X.A.frames) {pins : List (Addr × Obj)} {σ : L2.St} {H : Hp} {s : Shared} {Q : VK} {us : List Value} {vs : List V} (F : FnR X.prog X.w X.K X.mg X.base CX k f sp) (hr : Room k A') (hx : PassesAt CX X σ (E σ))
    (I : Inv X pins σ H s) (r : Vals vs us) (h : sp vs H Q (E σ)) : codeAny (model X.prog X.w) A' (.call (.ref f) ⟨us, []⟩) (fun r s' => match r with | .ok (.ret v) => EP X pins σ Q v s' | .ok _ => False | .error e => X.xe e s') s := by
  have e0 := I.env0
  refine codeAny_mono (F A' X.stack s H us vs Q (E σ) hr ⟨hA.trans e0.frames, e0.mod, e0.bs, e0.bsz, e0.funs, e0.frf, e0.hok, e0.bare⟩ r h) fun r s' hq => ?_
  cases r with
  | error e => exact hx pins H s e s' I hq
  | ok fl =>
    cases fl with
    | ret u => exact I.after hq
    | next => exact False.elim hq
    | brk => exact False.elim hq
    | cont => exact False.elim hq
@[simp] def fCmS (c : Nat) (m : Mir) (fo : M T) (fs : M (List T)) (env : Env) : R T := (fo env).bind fun t e => match frz t with
  | .cls k => if k = c then (fs e).bind fun ts e2 => if ts.length ≤ sizeLine then retF [] e2 (m [.fz (.cls c), .fz (.tup (frzs ts))]) else .no else .no
  | _ => .no
theorem rd_star {G : Sg} {σ : L2.St} {ex : List (V × T)} {H2 : Hp} {e2 : Env} {y : V} {vs : List V} {ts : List T} {d : D} {Q : VK} (hlv : vs.length = ts.length) (hz : ts.length ≤ sizeLine) (r2 : Rel G H2 σ e2 (vs.zip ts ++ ((y, .fz d) :: ex))) (q : Wnt G W σ ex Q (retF [] e2 (m [.fz d, .fz (.tup (frzs ts))]))) :
    spStar G.Z 1 m (y :: vs) H2 Q (fun cls d H' => W cls d σ H') := by
  refine ⟨[y], vs, rfl, rfl, by rw [hlv]; exact hz, fun p hp => ?_⟩
  have ro := Roots.freezes (Rel.out (l := vs.zip ts) r2)
  have rt := Roots.newT (ds := frzs ts) (by rw [frzs_len]; exact hlv) ro hp
  have r3 : Rel G (upd H2 p (.tup vs)) σ e2 ((.ref p, .fz (.tup (frzs ts))) :: (y, .fz d) :: ex) := r2.back1 rt
  have r4 : Rel G (upd H2 p (.tup vs)) σ e2 ([y, .ref p].zip [.fz d, .fz (.tup (frzs ts))] ++ ex) := r3.perm (.swap ..)
  exact rd_call (src := [none, none]) (js := []) (io := []) (P := fun t e => ∀ H' v, Rel G H' σ e ((v, t) :: ex) → Q v H') (fun t e H' v q r' => q H' v r') r4 rfl rfl rfl (fun k j ek => by
    rcases k with _ | _ | k
    · cases ek
    · cases ek
    · simp at ek) rfl q
theorem dcmS (F : Dcs X.prog X.w X.K X.mg X.base C c x k m) (hr : Room k X.A) (ho : DE X ⟨⟨X.K, C⟩, io0, s0, n, false⟩ W o fo) (ha : DA X ⟨⟨X.K, C⟩, io0, s0, n, false⟩ W (e :: es) src fs) {pl : Sem Bool}
    (hst : starEach (e :: es) X.env = (false, eval e X.env) :: starEach es X.env := by rfl) (hpl : (backTo pos (starEach es X.env)).any (·.1) = false := by rfl)
    (ht : eval (.Call (.Attribute o x apos) (e :: es) [] pos) X.env = (do
      let w1 ← eval o X.env
      standAt apos.atName
      let (f, w2) ← holding [w1] (getMethod w1 x pl)
      callWith pos f w2 (backTo pos (starEach (e :: es) X.env)) (backToKw pos (keywordEach [] X.env))) := by rfl) :
    DE X ⟨⟨X.K, C⟩, io0, s0, n, false⟩ W (.Call (.Attribute o x apos) (e :: es) [] pos) (fCmS c m fo fs) := fun gd => by
  obtain ⟨mc, pp, g, h0, h1, h3⟩ := F.ex
  refine ⟨fun pins s σ H Q I ⟨env, ex, r, h⟩ => ?_⟩
  have hO : rdE ⟨⟨X.K, C⟩, io0, s0, n, false⟩ W fo σ H (fun y H1 => y = .ref (C c) ∧ rdA ⟨⟨X.K, C⟩, io0, s0, n, false⟩ W src fs σ H1 (fun vs H2 => spStar ⟨X.K, C⟩ 1 m (y :: vs) H2 Q (fun cls d H' => W cls d σ H'))) := by
    refine rd_then r h fun H1 y t e1 r1 h' => ?_
    split at h'
    · rename_i kk ek
      split at h'
      · rename_i hk
        subst hk
        have r1' := r1.freeze
        rw [ek] at r1'
        have ey : y = .ref (C kk) := r1'.out1.fz
        refine ⟨ey, e1, (y, .fz (.cls kk)) :: ex, r1', aft_more (l := [_]) (aft_bind h') fun ts e2 q H2 vs hlv hs hsrc r2 => ?_⟩
        split at q
        · rename_i hz
          exact rd_star (G := ⟨⟨X.K, C⟩, io0, s0, n, false⟩) hlv hz r2 q
        · exact q.elim
      · exact h'.elim
    · exact h'.elim
  refine PySem.W.methodCall_KW (pl := pl) (thn ((ho gd).run pins s σ H _ I hO) fun u s1 ⟨y, H1, I1, ry, ey, q⟩ => ?_) ht
  subst ey
  obtain rfl : u = Value.ref (C c) := ry
  refine ClX.getmethcm_ok I1 h0 h1 fun s2 I2 => ?_
  refine ClX.callwith_cm I2 (ClX.base_none I1 (Nat.le_refl _)) h1.fi (thn ((ha gd).run pos _ s2 σ H1 _ I2 q) fun us s3 ⟨vs, H2, I3, rv, q2⟩ => ⟨⟨ClX.pin_at I3, I3.kIn⟩, ?_⟩) hst hpl
  refine thn (wpAny_call (PySem.W.method_call (ClX.pin_at I3) (run_fnRC (us := .ref (C c) :: us) (vs := .ref (C c) :: vs) (E := fun σ cls d H' => W cls d σ H') rfl h3 hr (passAt gd.tk σ) I3 (.cons rfl rv) q2))) fun _ _ y => ClX.unpinE y
theorem dcmS0 (F : Dcs X.prog X.w X.K X.mg X.base C c x k m) (hr : Room k X.A) (ho : DE X ⟨⟨X.K, C⟩, io0, s0, n, false⟩ W o fo) {pl : Sem Bool}
    (ht : eval (.Call (.Attribute o x apos) [] [] pos) X.env = (do
      let w1 ← eval o X.env
      standAt apos.atName
      let (f, w2) ← holding [w1] (getMethod w1 x pl)
      callWith pos f w2 (backTo pos (starEach [] X.env)) (backToKw pos (keywordEach [] X.env))) := by rfl) :
    DE X ⟨⟨X.K, C⟩, io0, s0, n, false⟩ W (.Call (.Attribute o x apos) [] [] pos) (fCmS c m fo fNil) := fun gd => by
  obtain ⟨mc, pp, g, h0, h1, h3⟩ := F.ex
  refine ⟨fun pins s σ H Q I ⟨env, ex, r, h⟩ => ?_⟩
  have hO : rdE ⟨⟨X.K, C⟩, io0, s0, n, false⟩ W fo σ H (fun y H1 => y = .ref (C c) ∧ spStar ⟨X.K, C⟩ 1 m [y] H1 Q (fun cls d H' => W cls d σ H')) := by
    refine rd_then r h fun H1 y t e1 r1 h' => ?_
    split at h'
    · rename_i kk ek
      split at h'
      · rename_i hk
        subst hk
        have r1' := r1.freeze
        rw [ek] at r1'
        have ey : y = .ref (C kk) := r1'.out1.fz
        exact ⟨ey, rd_star (G := ⟨⟨X.K, C⟩, io0, s0, n, false⟩) (vs := []) (ts := []) rfl (Nat.zero_le _) r1' h'⟩
      · exact h'.elim
    · exact h'.elim
  refine PySem.W.methodCall_KW (pl := pl) (thn ((ho gd).run pins s σ H _ I hO) fun u s1 ⟨y, H1, I1, ry, ey, q⟩ => ?_) ht
  subst ey
  obtain rfl : u = Value.ref (C c) := ry
  refine ClX.getmethcm_ok I1 h0 h1 fun s2 I2 => ?_
  refine PySem.W.callWith_M0 ⟨ClX.pin_at I2, I2.kIn⟩ h1.fi ?_
  exact thn (wpAny_call (PySem.W.method_call (ClX.pin_at I2) (run_fnRC (us := [.ref (C c)]) (vs := [.ref (C c)]) (E := fun σ cls d H' => W cls d σ H') rfl h3 hr (passAt gd.tk σ) I2 (.cons rfl .nil) q))) fun _ _ y => ClX.unpinE y
end
end DL

set_option maxHeartbeats 4000000
namespace DL
open PySem PySem.Spec PyProof.Rows L2
section
variable {P : Program} {w : World} {A : Around} {E : Value → Shared → Prop} {s : Shared}
abbrev nset (w : World) : Obj := { cls := .type "set", dict := none, data := .set #[] 0 (.fresh 0 0 (!w.params.followText "set-order")) }
/-- set(l) of a list of ints (the library has it for a tuple) -/
theorem call_set_lstI {l : Addr} {items : Array Value} (ns : List Int) {Q : Value → Shared → Prop} (hh : A.handled = none) (hl : s.heap.IsList l items) (hit : IntsAre items.toList ns) (hb : ns.length + 1 < scanBound)
    (h : ∀ (h' : Heap) (tk c : Nat), SetR w h' s.heap.objs.size (fun j => decide (j ∈ ns)) c → c ≤ ns.length → (∀ b o, s.heap.get? b = some o → h'.get? b = some o) → Q (.ref s.heap.objs.size) { s with heap := h', toks := tk }) :
    wpAny (model P w) A (call (.type "set") [.ref l]) Q E s := by
  have hisz : items.size = ns.length := by
    have q := IntsAre.length hit
    rw [Array.length_toList] at q
    exact q
  obtain ⟨c, tl, hmro⟩ := F.called_set.mro
  have hmade := F.called_set.made
  have hsub := F.called_set.sub
  refine wpAny_call (codeAny_of_tree ?_)
  show wpAny _ _ (callAny (.type "set") _) _ _ _
  refine wpAny_pure ⟨Code.quiet_builtin _ (by decide +kernel), codeAny_builtin F.entry_type_call ?_⟩
  rw [Around.under_plain (weight_type_call_type "set" [.ref l] []) rfl]
  have h1 := F.called_set.notType
  have h2 := F.called_set.canCreate
  have hct := F.typeCall_set_1 (.ref l)
  repeat (any_goals (first | assumption | wp_step))
  refine codeAny_mono (code_set_led1 (.ref l) (E := E) (Q₁ := fun obj s₁ => obj = .ref s.heap.objs.size ∧ s₁ = { s with heap := s.heap.push (nset w) }) ⟨rfl, rfl⟩) fun r s₁ hr => ?_
  cases r with
  | error e => exact hr
  | ok fl =>
    cases fl with
    | ret obj =>
      obtain ⟨rfl, rfl⟩ := hr
      have hS : (s.heap.push (nset w)).get? s.heap.objs.size = some (nset w) := Heap.get?_push_size _ rfl
      have hT : Shared.TypeIs { s with heap := s.heap.push (nset w) } (.ref s.heap.objs.size) "set" := ⟨_, hS, rfl⟩
      have hli := F.called_set.init.lookup
      have hbi := F.called_set.init.bind (.ref s.heap.objs.size)
      repeat (any_goals (first | assumption | wp_step))
      refine codeAny_mono (codeAny_call_builtin (R := wants (fun r s₂ => r = .none ∧ ∃ h' tk c, s₂ = { s with heap := h', toks := tk } ∧ SetR w h' s.heap.objs.size (fun j => decide (j ∈ ns)) c ∧ c ≤ ns.length ∧
          (∀ b o, s.heap.get? b = some o → h'.get? b = some o)) E) F.called_set.init.plain F.entry_set_init (check_set_init_1 hT ?_)) fun r₂ s₂ hr₂ => ?_
      · obtain ⟨⟨ocls, odict, odata, oslots⟩, hol, hcl, nl, hdl⟩ := hl
        simp only at hcl hdl
        subst hcl; subst hdl
        have hol' : (s.heap.push (nset w)).get? l = some { cls := .type "list", dict := odict, data := .seq items nl, slots := oslots } := Heap.get?_push_of_some _ hol
        have hsls := F.sub_list_set
        have hslf := F.sub_list_frozenset
        have hne : (Value.type "list" == Value.type "dict") = false := by decide
        have hl1 : (s.heap.push (nset w)).IsList l items := ⟨_, hol', rfl, nl, rfl⟩
        unfold Builtin.«set.__init__» noKeywords Builtin.Frozenset.updateFrom
        generalize hPI : pyIter = PI
        wp_walk
        subst hPI
        refine wpAny_pyIter_list hl1 ?_
        refine wpAny_bind (wpAny_runValue ?_)
        have hlS : l < s.heap.objs.size := Heap.lt_size hol
        have hh3 : A.in1.in1.in1.handled = none := by simp [hh]
        have hneI : l ≠ (s.heap.push (nset w)).objs.size := by
          rw [Heap.size_push]; exact Nat.ne_of_lt (Nat.lt_succ_of_lt hlS)
        have hSf : s.heap.objs.size ∉ [(s.heap.push (nset w)).objs.size, l] := by
          rw [Heap.size_push]; simp only [List.mem_cons, List.mem_singleton, List.not_mem_nil, or_false, not_or]
          exact ⟨Nat.ne_of_lt (Nat.lt_succ_self _), Nat.ne_of_gt hlS⟩
        have hval : ∀ (i : Nat) (v : Value), items[i]? = some v → ∃ k t, ns[i]? = some k ∧ v = .int k t := fun i v hv => by
          have hi : i < ns.length := by rw [← hisz]; exact (Array.getElem?_eq_some_iff.mp hv).1
          obtain ⟨t, e⟩ := PyProof.Rows.IntsAre.int_at hit i v (by rw [Array.getElem?_toList]; exact hv)
          refine ⟨ns[i], t, List.getElem?_eq_getElem hi, ?_⟩
          rw [e, List.getD_eq_getElem?_getD, List.getElem?_eq_getElem hi] <;> rfl
        refine set_update_ints ((Walks.list hh3 _ l hneI items).toS) s.heap.objs.size
          hSf ns hisz hb hval (items.size - 0) 0 _ (by omega) (Nat.zero_le _)
          ⟨⟨_, Heap.get?_push_size _ rfl, rfl, rfl⟩, (hl1.push _)⟩ ?hS0 ?hR
        case hS0 => exact ⟨0, Nat.le_refl 0, setR_new_at (Heap.get?_push_of_some _ hS)⟩
        case hR =>
          intro s' c' hm hc' hS'
          obtain ⟨h', g2, d', tk', os'⟩ := s'
          have eg : g2 = s.gens := hm.gens
          have ed : d' = s.drawn := hm.drawn
          have eo : os' = s.os := hm.os
          subst eg; subst ed; subst eo
          show wpAny _ _ _ _ _ _
          refine wpAny_pure ?_
          show wpAny _ _ (ret Value.none) _ _ _
          rw [hisz] at hc'
          refine wpAny_pure ⟨rfl, h', tk', c', rfl, hS', hc', fun b o e => ?_⟩
          have hb0 : b < s.heap.objs.size := Heap.lt_size e
          have hb2 : b ≠ (s.heap.push (nset w)).objs.size := by
            rw [Heap.size_push]; exact Nat.ne_of_lt (Nat.lt_succ_of_lt hb0)
          exact hm.heap b o (by simp only [List.mem_cons, List.mem_singleton, List.not_mem_nil, or_false, not_or]; exact ⟨Nat.ne_of_lt hb0, hb2⟩) (Heap.get?_push_of_some _ (Heap.get?_push_of_some _ e))
      · cases r₂ with
        | error e => exact hr₂
        | ok fl₂ =>
          cases fl₂ with
          | ret r =>
            obtain ⟨rfl, h', tk, c', rfl, hS', hc', hk'⟩ := hr₂
            repeat (any_goals (first | assumption | wp_step))
            exact h _ _ _ hS' hc' hk'
          | _ => exact hr₂.elim
    | _ => exact hr.elim
end
end DL

set_option maxHeartbeats 4000000
namespace DL
open PySem PySem.Spec PyProof.Rows L2
/-! ### set(list or tuple of ints), sorted(set(..)) -/
section
variable {X : Cx} {G : Sg} {W : WX} {a b : Expr} {fa : M T} {p p2 p3 pos pos2 : Pos}
def rSetI (K : PySem.W.Frag) (w : World) : List V → Hp → VK → Prop := fun vs H Q => ∃ (a : Addr) (ns : List Int), vs = [V.ref a] ∧ (SqL K H a (ns.map V.int) ∨ SqT K H a (ns.map V.int)) ∧ ns.length + 1 < scanBound ∧
  ∀ (p : Addr) (c : Nat), c ≤ ns.length → H p = none → Q (.ref p) (upd H p (SetO w p (fun j => decide (j ∈ ns)) c))
theorem cr_setI (hc : X.calm = true) : CallR X (.type "set") (rSetI X.K X.w) := by
  intro pins s σ H vs us Q I r h
  obtain ⟨a, ns, rfl, hs, hb, q⟩ := h
  rw [Vals.ref1 r]
  rcases hs with hs | hs
  · obtain ⟨its, rv, hl, _⟩ := I.list hs
    refine call_set_lstI ns (I.ok.hd hc) hl.isList rv.ints hb fun h' tk c hS hcn hk => ?_
    exact ⟨.ref _, upd H s.heap.objs.size (SetO X.w s.heap.objs.size (fun j => decide (j ∈ ns)) c), I.laid (t' := tk) hk (Nat.le_refl _) (setO_new hS), rfl, q _ c hcn (I.hok.fresh (Nat.le_refl _))⟩
  · obtain ⟨its, rv, hl, _⟩ := I.tuple hs
    refine call_set_tupI ns (I.ok.hd hc) hl rv.ints hb fun h' tk c hS hcn hk => ?_
    exact ⟨.ref _, upd H s.heap.objs.size (SetO X.w s.heap.objs.size (fun j => decide (j ∈ ns)) c), I.laid (t' := tk) hk (Nat.le_refl _) (setO_new hS), rfl, q _ c hcn (I.hok.fresh (Nat.le_refl _))⟩
theorem Roots.ints {Z : Wd} {H : Hp} {rs : List (V × T)} (h : Roots Z H rs) : ∀ ns : List Int, Roots Z H ((ns.map V.int).zip (ns.map fun i => T.fz (.int i)) ++ rs)
  | [] => h
  | n :: ns => Roots.add (Roots.ints h ns) fun _ => rfl
@[simp] def gSrtSet : D → Option T
  | .lst ds => match intsD ds with
    | some ns => if ns.length < 63 then some (.lst ((srtU ns).map fun i => .fz (.int i))) else none
    | none => none
  | .tup ds => match intsD ds with
    | some ns => if ns.length < 63 then some (.lst ((srtU ns).map fun i => .fz (.int i))) else none
    | none => none
  | _ => none
theorem bt_sorted : bootBuiltins "sorted" = some (.builtin "sorted") := by decide +kernel
theorem bt_set : bootBuiltins "set" = some (.type "set") := by decide +kernel
theorem de_srtset (hm : X.mg "sorted" = none) (hm2 : X.mg "set" = none) (ha : DE X G W a fa) (hg : Gl X "sorted" := by rfl) (hg2 : Gl X "set" := by rfl) (hh : G.hot = false := by rfl)
    (he : starEach [Expr.Call (.Name "set" p2) [a] [] pos2] X.env = (false, eval (.Call (.Name "set" p2) [a] [] pos2) X.env) :: starEach [] X.env := by rfl) (he2 : starEach [a] X.env = (false, eval a X.env) :: starEach [] X.env := by rfl) :
    DE X G W (.Call (.Name "sorted" p) [.Call (.Name "set" p2) [a] [] pos2] [] pos) (fUn gSrtSet fa) := fun gd => by
  have hc := gd.calm hh
  refine (pe_callB (cr_sortedSet hc) hg hm bt_sorted (pa_cons (pe_callTy (cr_setI hc) hg2 hm2 bt_set (pa_cons (ha gd) pa_nil he2) (he := he2)) pa_nil he) (he := he)).imp fun σ H Q ⟨env, ex, r, h⟩ => rd_then r h fun H1 v t e1 r1 h1 => ?_
  cases e2 : gSrtSet (frz t) with
  | none => rw [e2] at h1; exact h1.elim
  | some t2 =>
    rw [e2] at h1
    have r1 := r1.freeze
    have key : ∃ (a : Addr) (ns : List Int), v = .ref a ∧ (SqL G.Z.K H1 a (ns.map V.int) ∨ SqT G.Z.K H1 a (ns.map V.int)) ∧ ns.length < 63 ∧ t2 = .lst ((srtU ns).map fun i => .fz (.int i)) := by
      cases et : frz t with
      | lst ds =>
        rw [et] at r1 e2
        obtain ⟨a, vs, ev, sq, rp⟩ := r1.out1.fz
        cases en : intsD ds with
        | none => simp [gSrtSet, en] at e2
        | some ns =>
          simp only [gSrtSet, en] at e2
          split at e2
          · cases e2
            exact ⟨a, ns, ev, .inl (intsD_ok rp en ▸ sq), by assumption, rfl⟩
          · cases e2
      | tup ds =>
        rw [et] at r1 e2
        obtain ⟨a, vs, ev, sq, rp⟩ := r1.out1.fz
        cases en : intsD ds with
        | none => simp [gSrtSet, en] at e2
        | some ns =>
          simp only [gSrtSet, en] at e2
          split at e2
          · cases e2
            exact ⟨a, ns, ev, .inr (intsD_ok rp en ▸ sq), by assumption, rfl⟩
          · cases e2
      | _ => rw [et] at e2; simp at e2
    obtain ⟨a, ns, ev, sq, h63, rfl⟩ := key
    have hsb : ns.length + 1 < scanBound := Nat.lt_trans (Nat.succ_lt_succ h63) (by decide)
    refine ⟨a, ns, by rw [ev], by rw [← gd.hK]; exact sq, hsb, fun p c hcn hp => ?_⟩
    refine ⟨p, _, c, rfl, upd_same, by omega, fun ns' q hs hm hl hq => ?_⟩
    have en : ns' = srtU ns := sorted_ext hs (srtU_sorted ns) fun k => by rw [hm k, srtU_mem, decide_eq_true_eq]
    subst en
    refine h1 _ _ (r1.back1 (Roots.newL (vs := (srtU ns).map V.int) (by simp) (Roots.ints (Roots.other r1.out1.drop hp) _) hq))
end
/-! ### bool(..) -/
section
variable {prog : Program} {w : World} {A : Around} {E : Value → Shared → Prop} {s : Shared}
theorem call_bool_truthy {x : Value} {Q : Value → Shared → Prop} (h : wpAny (model prog w) A.in1.in1 (truthy x) (fun b s1 => Q (.bool b) s1) E s) : wpAny (model prog w) A (call (.type "bool") [x]) Q E s := by
  refine callType_codes (T := "bool") (Bi := Builtin.«object.__init__») (Q₁ := fun r s₁ => ∃ b, r = .bool b ∧ Q r s₁) PySem.F.called_bool (PySem.F.typeCall_bool_1 _) PySem.F.entry_object_init ?_ ?_
  · refine codeAny_of_tree ?_
    show wpAny _ A.in1.in1 (do checkBuiltinCall "bool.__new__" ⟨[.type "bool", x], []⟩; again (.builtin "bool.__new__" ⟨[.type "bool", x], []⟩)) _ _ s
    refine wpAny_bind (wpAny_of_eq (PySem.F.newCall_bool_1 _) (wpAny_pure ⟨plainId_quiet (by decide +kernel) _, codeAny_builtin PySem.F.entry_bool_new ?_⟩))
    rw [Around.under_plainId (by decide +kernel) _]
    have f1 := F.conv_sub_bool
    obtain ⟨hp, g, d, tk, os⟩ := s
    repeat (any_goals (first | assumption | (with_reducible refine wpAny_mono h (fun b s1 q => ?_) (fun _ _ y => y)) | wp_step))
    all_goals first | exact ⟨_, rfl, q⟩ | skip
  · rintro obj s₁ ⟨b, rfl, hq⟩
    exact ⟨PySem.typeIs_bool _ _, PySem.F.args_object_init_2 _ _, object_init_meets PySem.F.called_bool.init.lookup PySem.F.called_bool.made (by decide) prog w A.in1 _ s₁ ⟨PySem.typeIs_bool _ _, rfl, hq⟩⟩
end
end DL

set_option maxHeartbeats 4000000
namespace DL
open PySem PySem.Spec PyProof.Rows L2
/-! ### bool(..) of a tuple, of an object -/
section
variable {X : Cx} {G : Sg} {W : WX} {Z : Wd} {a b : Expr} {fa : M T} {fs : M (List T)} {src : List (Option Nat)} {p pos : Pos}
theorem call_boolT : CallR X (.type "bool") (fun xs H Q => ∃ (a : Addr) (zs : List V), xs = [.ref a] ∧ SqT X.K H a zs ∧ Q (.bl (!zs.isEmpty)) H) := by
  intro pins s σ H xs us Q I r h
  obtain ⟨a, zs, rfl, hq, q⟩ := h
  obtain rfl := Vals.ref1 r
  obtain ⟨its, rv, pl, hz⟩ := I.tuple hq
  have hl := line63
  have hlen := rv.length
  refine call_bool_truthy (truthy_tuple pl (by simp only [List.size_toArray]; omega) ?_)
  exact ⟨.bl (!zs.isEmpty), H, I.tok _, by rw [isEmpty_of rv]; rfl, q⟩
@[simp] def gBool2 : D → Option T
  | .int i => some (.fz (.bl (i != 0)))
  | .bl b => some (.fz (.bl b))
  | .lst ds => some (.fz (.bl (!ds.isEmpty)))
  | .tup ds => some (.fz (.bl (!ds.isEmpty)))
  | _ => none
theorem cd_bool2 (hK : Z.K = X.K) : CallD X Z (.type "bool") (g1 gBool2) := cd_1 ((call_bool1.or call_boolL).or call_boolT) fun H rs v d t Q ro e k => by
  rw [← hK]
  unfold gBool2 at e
  split at e
  · cases e
    exact .inl (.inl (.inl ⟨_, congrArg (fun x => [x]) ro.fz, k H _ (Roots.add ro.drop fun _ => rfl)⟩))
  · cases e
    exact .inl (.inl (.inr ⟨_, congrArg (fun x => [x]) ro.fz, k H _ (Roots.add ro.drop fun _ => rfl)⟩))
  · rename_i ds
    cases e
    obtain ⟨a, vs, ev, sq, r⟩ := ro.fz
    refine .inl (.inr ⟨a, vs, by rw [ev], sq, ?_⟩)
    rw [isEmpty_len r.length]
    exact k H _ (Roots.add ro.drop fun _ => rfl)
  · rename_i ds
    cases e
    obtain ⟨a, vs, ev, sq, r⟩ := ro.fz
    refine .inr ⟨a, vs, by rw [ev], sq, ?_⟩
    rw [isEmpty_len r.length]
    exact k H _ (Roots.add ro.drop fun _ => rfl)
  · cases e
theorem c_bool2 (hm : X.mg "bool" = none) (ha : DA X G W [a] src fs) (hg : Gl X "bool" := by rfl) (he : starEach [a] X.env = (false, eval a X.env) :: starEach [] X.env := by rfl) : DE X G W (.Call (.Name "bool" p) [a] [] pos) (fCB (g1 gBool2) fs) := fun gd => (de_callTy (cd_bool2 gd.hK) hg hm bt_bool ha (he := he)) gd
end
section
variable {X : Cx} {W : WX} {a : Expr} {fa : M T} {p pos : Pos} {io0 : List Nat} {s0 : L2.St} {n : Nat} {C : Nat → Addr} {c k : Nat} {ps : List Str} {m : Mir}
@[simp] def retBl (e : Env) : RF → R T
  | .ok (.fz (.bl x)) us => if us.length = 0 then .ok (.fz (.bl x)) e else .no
  | .ex x us => if us.length = 0 then .ex x e else .no
  | _ => .no
@[simp] def fBoolO (k : Nat) (m : Mir) (fa : M T) (env : Env) : R T := (fa env).bind fun t e => match frz t with
  | .obj c ns ds => if c = k then retBl e (m [.fz (.obj c ns ds)]) else .no
  | _ => .no
theorem dboolO (F : Dm X.prog X.w X.K X.mg X.base C c "__bool__" k ps [] m) (hm : X.mg "bool" = none) (hr : Room (k + 2) X.A) (ha : DE X ⟨⟨X.K, C⟩, io0, s0, n, false⟩ W a fa) (hsl : 1 = ps.length := by rfl) (hg : Gl X "bool" := by rfl) (hs : starEach [a] X.env = [(false, eval a X.env)] := by rfl) :
    DE X ⟨⟨X.K, C⟩, io0, s0, n, false⟩ W (.Call (.Name "bool" p) [a] [] pos) (fBoolO c m fa) := fun gd => by
  obtain ⟨f, fd, h1, h2, h3⟩ := F.ex
  refine ⟨fun pins s σ H Q I ⟨env, ex, r, h⟩ => ?_⟩
  have hO : rdE ⟨⟨X.K, C⟩, io0, s0, n, false⟩ W fa σ H (fun y H1 => ∃ e1 ns ds, Rel ⟨⟨X.K, C⟩, io0, s0, n, false⟩ H1 σ e1 ((y, .fz (.obj c ns ds)) :: ex) ∧ Wnt ⟨⟨X.K, C⟩, io0, s0, n, false⟩ W σ ex Q (retBl e1 (m [.fz (.obj c ns ds)]))) := by
    refine rd_then r h fun H1 y t e1 r1 h' => ?_
    split at h'
    · rename_i c1 ns ds et
      split at h'
      · rename_i hc
        subst hc
        have r1' := r1.freeze
        rw [et] at r1'
        exact ⟨e1, ns, ds, r1', h'⟩
      · exact h'.elim
    · exact h'.elim
  have hP := (pa_cons (ha gd) pa_nil hs).run pos pins s σ H (fun vs H1 => ∃ y, vs = [y] ∧ ∃ e1 ns ds, Rel ⟨⟨X.K, C⟩, io0, s0, n, false⟩ H1 σ e1 ((y, .fz (.obj c ns ds)) :: ex) ∧ Wnt ⟨⟨X.K, C⟩, io0, s0, n, false⟩ W σ ex Q (retBl e1 (m [.fz (.obj c ns ds)]))) I (rdE_mono0 hO fun y H1 q => ⟨y, rfl, q⟩)
  refine Call_ (ld_blt I hg hm bt_bool (PyProof.Rows.callWith_type1 (thn hP fun us s1 ⟨vs, H1, I1, rv, y, ey, e1, ns, ds, r1, h'⟩ => ?_) hs rfl))
  subst ey
  cases rv with
  | @cons _ u _ ur ry rr =>
  cases rr
  obtain ⟨aa, dx, od, ea, J⟩ := inst_at r1.out1.fz I1.hok
  obtain ⟨mm, fr⟩ := I1.fr
  subst ea
  obtain rfl : u = Value.ref aa := ry
  have hr2 : Room k X.A.in1.in1 := Room.in1 (Room.in1 hr)
  refine call_bool_truthy (PySem.W.truthy_K fr I1.ok.mod.kin J h1.at_ h1.fn (thn (call1A (A' := X.A.in1.in1) rfl (C := C) (v1 := .ref aa) (Q := fun v H' => ∃ x, v = .bl x ∧ Q v H') gd hr2 h2 h3 hsl I1 rfl r1 ?_) fun u s' ⟨v, H', I', rv, bb, ev, q⟩ => ?_))
  · unfold retBl at h'
    split at h'
    · rename_i b us em
      rw [em]
      simp only [retF]
      split at h'
      · rename_i hu
        rw [if_pos (by simpa using hu)]
        intro H' v r'
        have ev : v = .bl b := r'.out1.fz
        have : us = [] := List.eq_nil_of_length_eq_zero hu
        subst this
        exact ⟨b, ev, h' H' v r'⟩
      · exact h'.elim
    · rename_i x us em
      rw [em]
      simp only [retF]
      split at h'
      · rename_i hu
        rw [if_pos (by simpa using hu)]
        have : us = [] := List.eq_nil_of_length_eq_zero hu
        subst this
        exact h'
      · exact h'.elim
    · exact h'.elim
  · subst ev
    cases rv
    exact ⟨.bl bb, H', I', rfl, q⟩
end
/-! ### a global int -/
section
variable {X : Cx} {G : Sg} {W : WX} {a e : Expr} {es : List Expr} {fa : M T} {fs : M (List T)} {src : List (Option Nat)} {p pos : Pos}
theorem de_glbI {x : Str} {i : Int} {t : Tok} (hm : X.mg x = some (.int i t)) (hg : Gl X x := by rfl) (hd : (x == ("__debug__" : Str)) = false := by decide) : DE X G W (.Name x pos) (fC (.int i)) :=
  de_const (pe_glob hg hm (v := .int i) ⟨t, rfl⟩ hd) fun _ => rfl
/-! ### displays with starred items -/
def rdX (G : Sg) (W : WX) (f : M (List T)) : TA := fun σ H Q => ∃ env ex, Rel G H σ env ex ∧ Aft (XOk G W σ ex) (fun ts e => ∀ H' vs, vs.length = ts.length → Rel G H' σ e (vs.zip ts ++ ex) → Q vs H') (f env)
def DX (X : Cx) (G : Sg) (W : WX) (es : List Expr) (f : M (List T)) : Prop := Good X G W → PA X es (rdX G W f)
theorem dx_nil : DX X G W [] fNil := fun g => pa_nil.imp fun σ H Q ⟨env, ex, r, h⟩ => h H [] rfl r
theorem dx_cons (ha : DE X G W e fa) (hr : DX X G W es fs) (hs : starEach (e :: es) X.env = (false, eval e X.env) :: starEach es X.env := by rfl) : DX X G W (e :: es) (fCons fa fs) := fun g =>
  (pa_cons (ha g) (hr g) hs).imp fun σ H Q ⟨env, ex, r, h⟩ => rd_then r h fun H' v t e r' h' => by
    refine ⟨e, (v, t) :: ex, r', aft_more (l := [(v, t)]) (aft_bind h') fun ts e2 p H2 vs hl r2 => ?_⟩
    exact p H2 (v :: vs) (by simpa using hl) (r2.perm List.perm_middle)
@[simp] def fStar (f : M T) (g : M (List T)) (env : Env) : R (List T) := (f env).bind fun t e => match seqD (frz t) with
  | some ds => (g e).bind fun ts e' => .ok (ds.map T.fz ++ ts) e'
  | none => .no
theorem dx_star (ha : DE X G W e fa) (hr : DX X G W es fs) (hs : starEach (.Starred e p :: es) X.env = (true, eval e X.env) :: starEach es X.env := by rfl) : DX X G W (.Starred e p :: es) (fStar fa fs) := fun g =>
  (StX.pa_star (ha g) (hr g) hs).imp fun σ H Q ⟨env, ex, r, h⟩ => rd_then r h fun H' v t e r' h' => by
    have r2 := r'.freeze
    have key : ∀ ds, seqD (frz t) = some ds → ∃ p xs, v = .ref p ∧ (SqT G.Z.K H' p xs ∨ SqL G.Z.K H' p xs) ∧ xs.length = ds.length ∧ Rel G H' σ e (xs.zip (ds.map T.fz) ++ ex) := by
      intro ds hd
      cases et : frz t with
      | lst d2 =>
        rw [et] at hd r2
        cases hd
        obtain ⟨p, xs, ev, sq, hl, ro⟩ := r2.out1.openL
        exact ⟨p, xs, ev, .inr sq, hl, r2.back ro⟩
      | tup d2 =>
        rw [et] at hd r2
        cases hd
        obtain ⟨p, xs, ev, sq, hl, ro⟩ := r2.out1.openT
        exact ⟨p, xs, ev, .inl sq, hl, r2.back ro⟩
      | _ => rw [et] at hd; cases hd
    cases ed : seqD (frz t) with
    | none => rw [ed] at h'; exact h'.elim
    | some ds =>
      rw [ed] at h'
      obtain ⟨p, xs, ev, sq, hl, r3⟩ := key ds ed
      refine ⟨p, xs, ev, by rw [← g.hK]; exact sq, e, xs.zip (ds.map T.fz) ++ ex, r3, aft_more (l := xs.zip (ds.map T.fz)) (aft_bind h') fun ts e2 q H2 vs hl2 r4 => ?_⟩
      refine q H2 (xs ++ vs) (by simp [hl, hl2]) ?_
      rw [List.zip_append (by simpa using hl), List.append_assoc]
      refine r4.perm ?_
      rw [← List.append_assoc, ← List.append_assoc]
      exact List.perm_append_comm.append_right ex
theorem de_lstX (ha : DX X G W es fs) : DE X G W (.List es pos) (fLst fs) := fun gd =>
  (pe_lst (ha gd)).imp fun σ H Q ⟨env, ex, rel, h⟩ => ⟨env, ex, rel, aft_more (l := []) (aft_bind h) fun ts e p H2 vs hl r2 => by
    split at p
    · rename_i hz
      exact ⟨by rw [hl]; exact hz, fun q nq => p _ _ (r2.back1 (Roots.newL hl r2.out nq))⟩
    · exact p.elim⟩
end
/-! ### lent: for y in x -/
section
variable {X : Cx} {G : Sg} {W : WX} {Z : Wd} {p pos : Pos} {bd : List Stmt} {f : MS}
theorem Roots.keepAll {H : Hp} {v : V} {ts : List T} {rs : List (V × T)} (h : Roots Z H ((v, .lst ts) :: rs)) : Roots Z H ((v, .lst ((frzs ts).map T.fz)) :: rs) := by
  obtain ⟨p, vs, ev, hp, hl, k⟩ := h.lstKeep
  obtain ⟨_, r⟩ := k [] [] (fun F _ => trivial)
  exact r
theorem frzs_fz0 (ds : List D) : frzs (ds.map T.fz) = ds := by
  induction ds with
  | nil => rfl
  | cons d ds ih => simp [frzs, frz, ih]
theorem dwalk_own {v : V} {ds : List D} {p : Addr} (ev : v = .ref p) : DWalk Z (Itl Z.K p) [(v, .lst (ds.map T.fz))] ds where
  go := fun i H rs hi ro => by
    obtain ⟨q, vs, e, hq, hl⟩ := Roots.lst ro
    rw [ev] at e
    cases e
    have hv : i < vs.length := by rw [hl, List.length_map]; exact hi
    exact ⟨vs, vs[i], SqL.of hq, List.getElem?_eq_getElem hv⟩
  stop := fun H rs ro => by
    obtain ⟨q, vs, e, hq, hl⟩ := Roots.lst ro
    rw [ev] at e
    cases e
    exact ⟨vs, SqL.of hq, by rw [hl, List.length_map]; exact Nat.le_refl _⟩
  yld := fun i H H' x rs d hd ro y => by
    obtain ⟨rfl, hy⟩ := y
    obtain ⟨q, ws, e, hq, hl, k⟩ := Roots.lstKeep ro
    rw [ev] at e
    cases e
    rw [frzs_fz0] at k
    obtain ⟨_, r⟩ := k [x] [d] (fun F rp => by
      obtain ⟨w, ew, rw'⟩ := rp.get hd
      rw [hy ws (SqL.of hq)] at ew
      cases ew
      exact ⟨rw', trivial⟩)
    exact r
@[simp] def putR (i : Nat) (t : T) : RS → RS
  | .nx e => .nx (e.set i (some t))
  | .rt u e => .rt u (e.set i (some t))
  | .bk e => .bk (e.set i (some t))
  | .ct e => .ct (e.set i (some t))
  | .ex x e => .ex x (e.set i (some t))
  | .no => .no
@[simp] def fForL (i : Nat) (set : T → Env → Option Env) (b : MS) (env : Env) : RS := match env[i]? with
  | some (some (.lst ts)) => putR i (.lst ((frzs ts).map T.fz)) (loopF set b (frzs ts) (env.set i none))
  | _ => .no
theorem ds_forL (i : Nat) {tg : Expr} {x : Str} {set : T → Env → Option Env} {ws : List Nat} (hg : DG X G W tg ws set) (hb : DSs X G W bd f) (hio : G.io.contains i = true := by rfl) (hN : X.N[i]? = some x := by rfl) (hv : Vis X.env.scope x := by first | exact Or.inl rfl | exact Or.inr (Or.inl rfl) | exact Or.inr (Or.inr rfl))
    (hd : (x == ("__debug__" : Str)) = false := by decide) (hcd : (x == ("__classdict__" : Str)) = false := by decide) (hs : ∀ y, foldedSetIterable (.Name x p) X.env y = pure y := by intro _; rfl) (hh : G.hot = false := by rfl) : DS X G W (.For tg (.Name x p) bd [] pos) (fForL i set f) := fun gd =>
  (ps_for gd.own (gd.calm hh) (pi_list (pe_var hN hv hd hcd)) (hg gd) (hb gd) hs).imp fun D σ H ⟨env, ex, r, h⟩ => by
    unfold fForL at h
    split at h
    · rename_i ts et
      obtain ⟨v, ev, r1⟩ := r.take et
      obtain ⟨p, vs, rfl, hp, hl⟩ := r1.out1.lst
      have iio : i ∈ G.io := List.contains_iff_mem.mp hio
      have es0 : G.s0[i]? = some (some (V.ref p)) := by rw [← r.2.1.2 i iio]; exact ev
      have hfix : ∀ {σ' : L2.St} {H' : Hp} {e' : Env} {l : List (V × T)}, Rel G H' σ' e' l → σ'[i]? = some (some (V.ref p)) := fun r' => (r'.2.1.2 i iio).trans es0
      generalize hT : T.lst ((frzs ts).map T.fz) = tr at h
      have r2 : Rel G H σ (env.set i none) ([(V.ref p, tr)] ++ ex) := by subst hT; exact r1.back1 r1.out1.keepAll
      have w : DWalk G.Z (Itl G.Z.K p) [(V.ref p, tr)] (frzs ts) := by subst hT; exact dwalk_own rfl
      refine ⟨.ref p, ev, p, rfl, ⟨vs, SqL.of hp⟩, ?_⟩
      rw [← gd.hK]
      generalize frzs ts = ds at h w
      have put : ∀ {σ' : L2.St} {H' : Hp} {e' : Env} {l : List (V × T)}, Rel G H' σ' e' ((V.ref p, tr) :: l) → Rel G H' σ' (e'.set i (some tr)) l := fun r' => r'.put (hfix r')
      refine ⟨fun j m σ H => j ≤ ds.length ∧ m = ds.length - j ∧ ∃ env, Rel G H σ env ([(V.ref p, tr)] ++ ex) ∧ AftS G W D ex (putR i tr (loopF set f (ds.drop j) env)), ⟨_, Nat.zero_le _, rfl, _, r2, h⟩, ?_⟩
      rintro j m σ H ⟨hj, rfl, env, r, h⟩
      by_cases hlt : j < ds.length
      · have ed : ds[j]? = some ds[j] := List.getElem?_eq_getElem hlt
        rw [List.drop_eq_getElem_cons hlt] at h
        refine .inr ⟨w.go j H _ hlt r.out, fun σ' H' => ∃ env, Rel G H' σ' env ([(V.ref p, tr)] ++ ex) ∧ AftS G W D ex (putR i tr (loopF set f (ds.drop (j + 1)) env)), fun σ' H' q => ⟨ds.length - (j + 1), by omega, hlt, rfl, q⟩, fun x H1 y => ?_⟩
        have r1 : Rel G H1 σ env ((x, .fz ds[j]) :: ([(V.ref p, tr)] ++ ex)) := r.back (l := (x, .fz ds[j]) :: [(V.ref p, tr)]) (w.yld j H H1 x _ _ ed r.out y)
        unfold loopF at h
        cases e2 : set (.fz ds[j]) env with
        | none => rw [e2] at h; exact h.elim
        | some env2 =>
          rw [e2] at h
          refine ⟨env, [(V.ref p, tr)] ++ ex, .fz ds[j], r1, env2, e2, fun σ2 H2 _ r2 => ⟨env2, [(V.ref p, tr)] ++ ex, r2, ?_⟩⟩
          dsimp only at h
          cases e3 : f env2 with
          | nx e' => rw [e3] at h; exact fun σ' H' r2 => ⟨e', r2, h⟩
          | ct e' => rw [e3] at h; exact fun σ' H' r2 => ⟨e', r2, h⟩
          | bk e' => rw [e3] at h; exact fun σ' H' r2 => h σ' H' (put r2)
          | rt t e' =>
            rw [e3] at h
            exact fun σ H v r => h σ H v (put (r.perm (.swap ..)))
          | ex x e' =>
            rw [e3] at h
            intro σ'
            have h : XOk G W σ' ex (e'.set i (some tr)) x := h σ'
            unfold XOk at h ⊢
            cases hx : x.d with
            | none =>
              rw [hx] at h
              exact fun H' r => h H' (put r)
            | some pp =>
              rw [hx] at h
              exact fun H' dx r => h H' dx (put (r.perm (.swap ..)))
          | no => rw [e3] at h; exact h
      · have ei : j = ds.length := by omega
        subst ei
        rw [List.drop_length] at h
        exact .inl ⟨w.stop H _ r.out, h σ H (put r)⟩
    · exact h.elim
/-! ### lent: sorted(set(x)) -/
@[simp] def fSrtL (i : Nat) (env : Env) : R T := match env[i]? with
  | some (some (.lst ts)) => match intsD (frzs ts) with
    | some ns => if ns.length < 63 then .ok (.lst ((srtU ns).map fun i => .fz (.int i))) (env.set i (some (.lst ((frzs ts).map T.fz)))) else .no
    | none => .no
  | _ => .no
theorem de_srtsetL (i : Nat) {x : Str} {p2 p3 pos2 : Pos} (hm : X.mg "sorted" = none) (hm2 : X.mg "set" = none) (hg : Gl X "sorted" := by rfl) (hg2 : Gl X "set" := by rfl) (hh : G.hot = false := by rfl) (hN : X.N[i]? = some x := by rfl) (hv : Vis X.env.scope x := by first | exact Or.inl rfl | exact Or.inr (Or.inl rfl) | exact Or.inr (Or.inr rfl))
    (hd : (x == ("__debug__" : Str)) = false := by decide) (hcd : (x == ("__classdict__" : Str)) = false := by decide)
    (he : starEach [Expr.Call (.Name "set" p2) [.Name x p3] [] pos2] X.env = (false, eval (.Call (.Name "set" p2) [.Name x p3] [] pos2) X.env) :: starEach [] X.env := by rfl) (he2 : starEach [.Name x p3] X.env = (false, eval (.Name x p3) X.env) :: starEach [] X.env := by rfl) :
    DE X G W (.Call (.Name "sorted" p) [.Call (.Name "set" p2) [.Name x p3] [] pos2] [] pos) (fSrtL i) := fun gd => by
  have hc := gd.calm hh
  refine (pe_callB (cr_sortedSet hc) hg hm bt_sorted (pa_cons (pe_callTy (cr_setI hc) hg2 hm2 bt_set (pa_cons (pe_var hN hv hd hcd) pa_nil he2) (he := he2)) pa_nil he) (he := he)).imp fun σ H Q ⟨env, ex, r, h⟩ => ?_
  unfold fSrtL at h
  split at h
  · rename_i ts et
    obtain ⟨v, ev, r1⟩ := r.take et
    obtain ⟨a, vs, rfl, hp, hl, k⟩ := r1.out1.lstKeep
    cases en : intsD (frzs ts) with
    | none => rw [en] at h; exact h.elim
    | some ns =>
      rw [en] at h
      dsimp only at h
      split at h
      · rename_i h63
        have hvs : vs = ns.map V.int := by
          obtain ⟨F, _, s, ⟨_, f2, ⟨a', ws, f1, e1, e2, o1, rfl⟩, o2, rfl⟩, n, d⟩ := r1.out1.keepAll
          cases e1
          rw [hp] at e2
          cases e2
          exact intsD_ok (rps_of o1).1 en
        obtain ⟨_, ro⟩ := k [] [] (fun F _ => trivial)
        refine ⟨.ref a, ev, a, ns, rfl, .inl (by rw [← hvs]; exact SqL.of hp), Nat.lt_trans (Nat.succ_lt_succ h63) (by decide), fun q c hcn hq => ?_⟩
        refine ⟨q, _, c, rfl, upd_same, by omega, fun ns' q2 hs hm hl hq2 => ?_⟩
        have en : ns' = srtU ns := sorted_ext hs (srtU_sorted ns) fun k => by rw [hm k, srtU_mem, decide_eq_true_eq]
        subst en
        have ro2 := Roots.newL (vs := (srtU ns).map V.int) (by simp) (Roots.ints (Roots.other ro hq) (srtU ns)) hq2
        have r5 : Rel G (upd (upd H q (SetO X.w q (fun j => decide (j ∈ ns)) c)) q2 (HO.lst (List.map V.int (srtU ns)))) σ (env.set i none) ((V.ref a, .lst ((frzs ts).map T.fz)) :: (V.ref q2, .lst ((srtU ns).map fun i => .fz (.int i))) :: ex) := by
          refine r1.back (l := [(V.ref a, .lst ((frzs ts).map T.fz)), (V.ref q2, .lst ((srtU ns).map fun i => .fz (.int i)))]) (ro2.perm ?_)
          exact .swap ..
        have r6 := r5.put ev
        rw [List.set_set] at r6
        exact h _ _ r6
      · exact h.elim
  · exact h.elim
end
end DL

set_option maxHeartbeats 1000000
namespace DL
open PySem L2
/-! ### Chars -/
def b_Chars___init___l_f0 : MS := fIfS (fNot (fTest (fCall m_is_prime [] [none] (fCons (fVar 3) (fNil))))) (fRaise 1 ["p"] (fCons (fVar 3) (fNil))) (fNext)
def b_Chars___init___l : MS := fSeq (fForL 2 (sName 3) b_Chars___init___l_f0) (fSeq (fSetF 0 20 "endless" (fVar 1)) (fSetF 0 20 "primes" (fCB (g1 gTuple) (fCons (fSrtL 2) (fNil)))))
def m_Chars___init___l : Mir := mirOf 4 [0, 2] b_Chars___init___l

def b_Chars___init___f0 : MS := fIfS (fNot (fTest (fCall m_is_prime [] [none] (fCons (fVar 3) (fNil))))) (fRaise 1 ["p"] (fCons (fVar 3) (fNil))) (fNext)
def b_Chars___init__ : MS := fSeq (fFor (iSeq (fVar 2)) (sName 3) b_Chars___init___f0) (fSeq (fSetF 0 20 "endless" (fVar 1)) (fSetF 0 20 "primes" (fCB (g1 gTuple) (fCons (fUn gSrtSet (fVar 2)) (fNil)))))
def m_Chars___init__ : Mir := mirOf 4 [0] b_Chars___init__

def b_Chars___eq__ : MS := fSeq (fIfS (fNot (fTest (fCB (g2 (gIsO [20] 20)) (fCons (fVar 1) (fCons (fC (.cls 20)) (fNil)))))) (fRet (fC (.bl false))) (fNext)) (fRet (fAndV (fBin (gEq2 false) (fPeekF 0 20 "endless") (fPeekF 1 20 "endless")) (fBin (gEq2 false) (fPeekF 0 20 "primes") (fPeekF 1 20 "primes"))))
def m_Chars___eq__ : Mir := mirOf 2 [] b_Chars___eq__

def b_Chars___contains__ : MS := fSeq (fIfS (fTestB (fBin (gEq2 false) (fVar 1) (fC (.int 0)))) (fRet (fPeekF 0 20 "endless")) (fNext)) (fRet (fBin (gEq2 true) (fBin (gIn false) (fVar 1) (fPeekF 0 20 "primes")) (fPeekF 0 20 "endless")))
def m_Chars___contains__ : Mir := mirOf 2 [] b_Chars___contains__

def b_Chars_every : MS := fRet (fMakeL 0 20 m_Chars___init__ [none, none] (fCons (fC (.bl true)) (fCons (fLst (fNil)) (fNil))))
def m_Chars_every : Mir := mirOf 1 [] b_Chars_every

def b_Chars_none : MS := fRet (fMakeL 0 20 m_Chars___init__ [none, none] (fCons (fC (.bl false)) (fCons (fLst (fNil)) (fNil))))
def m_Chars_none : Mir := mirOf 1 [] b_Chars_none

def b_Chars_only : MS := fRet (fMakeL 0 20 m_Chars___init__ [none, none] (fCons (fC (.bl false)) (fCons (fVar 1) (fNil))))
def m_Chars_only : Mir := mirOf 2 [] b_Chars_only

def b_Chars_but : MS := fRet (fMakeL 0 20 m_Chars___init__ [none, none] (fCons (fC (.bl true)) (fCons (fVar 1) (fNil))))
def m_Chars_but : Mir := mirOf 2 [] b_Chars_but

def b_Chars___bool__ : MS := fRet (fCB (g1 gBool2) (fCons (fOrV (fPeekF 0 20 "endless") (fPeekF 0 20 "primes")) (fNil)))
def m_Chars___bool__ : Mir := mirOf 1 [] b_Chars___bool__

end DL

set_option maxHeartbeats 1000000
namespace DL
open PySem L2
/-- a prime, not too large -/
def PrI (p : Int) : Prop := Pr p.toNat ∧ p.natAbs < 2 ^ 1000
theorem PrI.sm {p : Int} (h : PrI p) : Sm p.natAbs := Nat.lt_of_lt_of_le h.2 (Nat.pow_le_pow_right (by decide) (by decide))
theorem PrI.pos {p : Int} (h : PrI p) : 2 ≤ p := by have := h.1.1; omega
theorem PrI.ne {p : Int} (h : PrI p) : p ≠ 0 := by have := h.pos; omega
theorem PrI.is {p : Int} (h : PrI p) : m_is_prime [.fz (.int p)] = .ok (.fz (.bl true)) [] := by
  have e := is_prime_eq h.sm
  simpa [h.1] using e
abbrev ChT (b : Bool) (ps : List Int) : T := .obj 20 ["endless", "primes"] [.fz (.bl b), .fz (tI ps)]
abbrev ChD (b : Bool) (ps : List Int) : D := .obj 20 ["endless", "primes"] [.bl b, tI ps]
@[simp] theorem ne_ep : (Str.ofString "endless" = Str.ofString "primes") = False := eq_false (by decide)
@[simp] theorem ne_pe : (Str.ofString "primes" = Str.ofString "endless") = False := eq_false (by decide)
@[simp] theorem in_ints (p : Int) (xs : List Int) : ((xs.map D.int).any fun y => eqD y (.int p)) = decide (p ∈ xs) := by
  induction xs with
  | nil => rfl
  | cons x xs ih =>
    simp only [List.map_cons, List.any_cons, ih]
    by_cases h : x = p
    · subst h; simp [eqD]
    · have h2 : ¬ p = x := fun z => h z.symm
      simp [eqD, h, h2]
@[simp] theorem in_ints' (p : Int) (xs : List Int) : (xs.any ((fun y => eqD y (.int p)) ∘ D.int)) = decide (p ∈ xs) := by rw [← in_ints p xs, List.any_map]
@[simp] theorem flat_ints (xs : List Int) : (xs.map D.int).all flatD = true := by simp
theorem init_step {a b c : Option T} {O : Option T} {p : Int} (h : PrI p) : b_Chars___init___f0 [a, b, c, some (.fz (.int p))] = .nx [a, b, c, some (.fz (.int p))] := by
  simp [b_Chars___init___f0, h.is]
theorem loop_init {a b c : Option T} : ∀ (ns : List Int) (O : Option T), (∀ p ∈ ns, PrI p) → ∃ O', loopF (sName 3) b_Chars___init___f0 (dI ns) [a, b, c, O] = .nx [a, b, c, O']
  | [], O, _ => ⟨O, rfl⟩
  | p :: ns, O, h => by
    obtain ⟨O', e⟩ := loop_init ns (some (.fz (.int p))) fun q hq => h q (List.mem_cons_of_mem _ hq)
    exact ⟨O', (loopF_go (by simp) (init_step (O := O) (h p (List.mem_cons_self ..)))).trans e⟩
theorem loopF_ex {set : T → Env → Option Env} {b : MS} {d : D} {ds : List D} {e e1 e2 : Env} {x : Ex} (h1 : set (.fz d) e = some e1) (h2 : b e1 = .ex x e2) : loopF set b (d :: ds) e = .ex x e2 := by
  simp [loopF, h1, h2]
theorem loop_init_ex {a b c : Option T} {q : Int} (hq : ¬ Pr q.toNat) (hs : q.natAbs < 2 ^ 1000) : ∀ (ns : List Int) (O : Option T) (rest : List Int), (∀ p ∈ ns, PrI p) → loopF (sName 3) b_Chars___init___f0 (dI (ns ++ q :: rest)) [a, b, c, O] = .ex ⟨1, some (["p"], [.int q])⟩ [a, b, c, some (.fz (.int q))]
  | [], O, rest, _ => by
    refine loopF_ex (e1 := [a, b, c, some (.fz (.int q))]) (by simp) ?_
    have e := is_prime_eq (n := q) (Nat.lt_of_lt_of_le hs (Nat.pow_le_pow_right (by decide) (by decide)))
    have f := intF_of (Nat.lt_of_lt_of_le hs (Nat.pow_le_pow_right (by decide) (by decide)))
    simp [b_Chars___init___f0, e, hq, fmtD, f]
  | p :: ns, O, rest, h => by
    have e := loop_init_ex (a := a) (b := b) (c := c) hq hs ns (some (.fz (.int p))) rest fun q hq => h q (List.mem_cons_of_mem _ hq)
    exact (loopF_go (by simp) (init_step (O := O) (h p (List.mem_cons_self ..)))).trans e
theorem frzs_ints (ns : List Int) : frzs (ns.map fun i => T.fz (.int i)) = dI ns := by
  induction ns with
  | nil => rfl
  | cons n ns ih => simp [frzs, frz, ih]
theorem chars_init {b : Bool} {ns : List Int} {d : D} (hd : d = lI ns ∨ d = tI ns) (hp : ∀ p ∈ ns, PrI p) (hl : ns.length < 63) : m_Chars___init__ [.obj 20 [] [], .fz (.bl b), .fz d] = .ok (.fz .non) [ChT b (srtU ns)] := by
  have l := fun z => loop_init (a := some (.obj 20 [] [])) (b := some (.fz (.bl b))) (c := some (.fz z)) ns none hp
  have f := frzs_ints (srtU ns)
  rcases hd with rfl | rfl
  · obtain ⟨O', e⟩ := l (lI ns)
    simp [m_Chars___init__, b_Chars___init__, e, hl, f]
  · obtain ⟨O', e⟩ := l (tI ns)
    simp [m_Chars___init__, b_Chars___init__, e, hl, f]
theorem chars_init_ex {b : Bool} {q : Int} {xs ns rest : List Int} (hx : xs = ns ++ q :: rest) (hq : ¬ Pr q.toNat) (hs : q.natAbs < 2 ^ 1000) (hp : ∀ p ∈ ns, PrI p) : m_Chars___init__ [.obj 20 [] [], .fz (.bl b), .fz (lI xs)] = .ex ⟨1, some (["p"], [.int q])⟩ [.obj 20 [] []] := by
  have e := loop_init_ex (a := some (.obj 20 [] [])) (b := some (.fz (.bl b))) (c := some (.fz (lI xs))) hq hs ns none rest hp
  rw [← hx] at e
  clear hx
  simp [m_Chars___init__, b_Chars___init__, e]
theorem frzs_comp' (ns : List Int) : frzs (ns.map (T.fz ∘ D.int)) = dI ns := by
  induction ns with
  | nil => rfl
  | cons n ns ih => simp [frzs, frz, ih]
theorem chars_initL {b : Bool} {ns : List Int} (hp : ∀ p ∈ ns, PrI p) (hl : ns.length < 63) : m_Chars___init___l [.obj 20 [] [], .fz (.bl b), .lst (ns.map (T.fz ∘ D.int))] = .ok (.fz .non) [ChT b (srtU ns), .lst (ns.map (T.fz ∘ D.int))] := by
  obtain ⟨O', e⟩ := loop_init (a := some (.obj 20 [] [])) (b := some (.fz (.bl b))) (c := none) ns none hp
  have f := frzs_ints (srtU ns)
  have g := frzs_comp' ns
  have r : b_Chars___init___l_f0 = b_Chars___init___f0 := rfl
  have m : (dI ns).map T.fz = ns.map (T.fz ∘ D.int) := by simp
  simp only [m_Chars___init___l, b_Chars___init___l, mirOf, startE, fSeq, fForL]
  simp [-List.map_map, r, g, e, hl, f, m]
theorem chars_eq (b c : Bool) (ps qs : List Int) : m_Chars___eq__ [.fz (ChD b ps), .fz (ChD c qs)] = .ok (.fz (.bl (decide (b = c) && decide (ps = qs)))) [] := by
  by_cases h : b = c <;> simp [m_Chars___eq__, b_Chars___eq__, h]
theorem chars_eq_other (b : Bool) (ps : List Int) {d : D} (h : isO [20] 20 d = some false) : m_Chars___eq__ [.fz (ChD b ps), .fz d] = .ok (.fz (.bl false)) [] := by
  simp [m_Chars___eq__, b_Chars___eq__, -isO, h]
/-- membership -/
def mem (b : Bool) (ps : List Int) (p : Int) : Bool := if p = 0 then b else (decide (p ∈ ps) != b)
theorem chars_in (b : Bool) (ps : List Int) (p : Int) : m_Chars___contains__ [.fz (ChD b ps), .fz (.int p)] = .ok (.fz (.bl (mem b ps p))) [] := by
  by_cases h : p = 0
  · subst h
    simp [m_Chars___contains__, b_Chars___contains__, mem]
  · simp [m_Chars___contains__, b_Chars___contains__, mem, h]
    cases b <;> cases (decide (p ∈ ps)) <;> rfl
theorem chars_bool (b : Bool) (ps : List Int) : m_Chars___bool__ [.fz (ChD b ps)] = .ok (.fz (.bl (b || !ps.isEmpty))) [] := by
  cases b <;> cases ps <;> simp [m_Chars___bool__, b_Chars___bool__]
theorem chars_every : m_Chars_every [.fz (.cls 20)] = .ok (ChT true []) [] := by
  have i := chars_init (b := true) (ns := []) (.inl rfl) (by simp) (by decide)
  have s : srtU [] = [] := rfl
  simp only [s, lI, tI, List.map_nil] at i
  simp [m_Chars_every, b_Chars_every, i, tI]
theorem chars_none : m_Chars_none [.fz (.cls 20)] = .ok (ChT false []) [] := by
  have i := chars_init (b := false) (ns := []) (.inl rfl) (by simp) (by decide)
  have s : srtU [] = [] := rfl
  simp only [s, lI, tI, List.map_nil] at i
  simp [m_Chars_none, b_Chars_none, i, tI]
theorem chars_only {ns : List Int} (hp : ∀ p ∈ ns, PrI p) (hl : ns.length < 63) : m_Chars_only [.fz (.cls 20), .fz (tI ns)] = .ok (ChT false (srtU ns)) [] := by
  have i := chars_init (b := false) (ns := ns) (.inr rfl) hp hl
  simp [m_Chars_only, b_Chars_only, i]
theorem chars_but {ns : List Int} (hp : ∀ p ∈ ns, PrI p) (hl : ns.length < 63) : m_Chars_but [.fz (.cls 20), .fz (tI ns)] = .ok (ChT true (srtU ns)) [] := by
  have i := chars_init (b := true) (ns := ns) (.inr rfl) hp hl
  simp [m_Chars_but, b_Chars_but, i]
end DL

set_option maxHeartbeats 1000000
namespace DL
open PySem L2
/-! ### a row without the zeros at its end -/
def strip (xs : List Int) : List Int := (xs.reverse.dropWhile (· == 0)).reverse
@[simp] theorem strip_nil : strip [] = [] := rfl
theorem strip_zero (xs : List Int) : strip (xs ++ [0]) = strip xs := by simp [strip]
theorem strip_snoc (xs : List Int) {a : Int} (h : a ≠ 0) : strip (xs ++ [a]) = xs ++ [a] := by simp [strip, h]
theorem snoc_cases (xs : List Int) : xs = [] ∨ ∃ ys a, xs = ys ++ [a] := by
  rcases List.eq_nil_or_concat xs with h | ⟨ys, a, h⟩
  · exact .inl h
  · exact .inr ⟨ys, a, by rw [h, List.concat_eq_append]⟩
theorem snoc_ind {P : List Int → Prop} (h0 : P []) (h1 : ∀ xs a, P xs → P (xs ++ [a])) (xs : List Int) : P xs := by
  have : ∀ n (xs : List Int), xs.length = n → P xs := by
    intro n
    induction n with
    | zero => intro xs h; rw [List.length_eq_zero_iff.mp h]; exact h0
    | succ n ih =>
      intro xs h
      rcases snoc_cases xs with rfl | ⟨ys, a, rfl⟩
      · exact h0
      · exact h1 ys a (ih ys (by simpa using h))
  exact this _ xs rfl
theorem strip_idem (xs : List Int) : strip (strip xs) = strip xs := by
  refine snoc_ind (P := fun xs => strip (strip xs) = strip xs) rfl (fun xs a ih => ?_) xs
  by_cases h : a = 0
  · subst h; rw [strip_zero, ih]
  · rw [strip_snoc xs h, strip_snoc xs h]
theorem strip_len (xs : List Int) : (strip xs).length ≤ xs.length := by
  refine snoc_ind (P := fun xs => (strip xs).length ≤ xs.length) (Nat.le_refl _) (fun xs a ih => ?_) xs
  by_cases h : a = 0
  · subst h; rw [strip_zero]; simp; omega
  · rw [strip_snoc xs h]; exact Nat.le_refl _
theorem strip_mem {xs : List Int} {x : Int} (h : x ∈ strip xs) : x ∈ xs := by
  revert h
  refine snoc_ind (P := fun xs => x ∈ strip xs → x ∈ xs) (fun h => h) (fun xs a ih h => ?_) xs
  by_cases ha : a = 0
  · subst ha; rw [strip_zero] at h; exact List.mem_append_left _ (ih h)
  · rw [strip_snoc xs ha] at h; exact h
/-- a row that is plain -/
def Plain (xs : List Int) : Prop := strip xs = xs
theorem plain_strip (xs : List Int) : Plain (strip xs) := strip_idem xs
/-! cuts -/
theorem cut_last {α : Type} (f : α → D) (ys : List α) (a : α) : cutD ((ys ++ [a]).map f) none (some (-1)) = ys.map f := by
  have : HT.sIx (ys.length + 1) (ys.length + 1) (some (-1)) = ys.length := by
    simp only [HT.sIx]
    rw [if_pos (by decide)]
    omega
  simp [this, HT.sIx_none]
theorem cut_take (ds : List D) {n : Nat} (h : n ≤ ds.length) : cutD ds none (some (n : Int)) = ds.take n := by
  have : HT.sIx ds.length ds.length (some (n : Int)) = n := by rw [HT.sIx_nat]; omega
  simp only [cutD, this, HT.sIx_none]
  simp
theorem last_int (ys : List Int) (a : Int) : atI ((ys ++ [a]).map D.int) (-1) = some (.int a) := by
  rw [List.map_append]; exact atI_last _ _
theorem ne_nil_int (t : T) (ys : List Int) (a : Int) : eqDs ((ys ++ [a]).map D.int) [] = false := by
  have := eqDs_ints (ys ++ [a]) []
  simp only [List.map_nil] at this
  rw [this]
  simp
theorem test_plain {t : T} {ys : List Int} {a : Int} (ht : frz t = lI (ys ++ [a])) : b__law_plain_c0 [some t] = .ok (decide (a = 0)) [some (.fz (lI (ys ++ [a])))] := by
  have h1 := last_int ys a
  have h3 := ne_nil_int t ys a
  generalize ys ++ [a] = xs at *
  simp [b__law_plain_c0, ht, h3, h1]
  trace_state
theorem turn_plain {ys : List Int} {a : Int} : b__law_plain_w0 [some (.fz (lI (ys ++ [a])))] = .nx [some (.lst ((dI ys).map T.fz))] := by
  have h2 := cut_last D.int ys a
  generalize ys ++ [a] = xs at *
  simp [b__law_plain_w0, -cutD, h2]
theorem test_nil {t : T} (ht : frz t = lI []) : b__law_plain_c0 [some t] = .ok false [some (.fz (lI []))] := by
  simp [b__law_plain_c0, ht]
theorem loop_plain : ∀ (n : Nat) (xs : List Int) (t : T), frz t = lI xs → xs.length < n → loopW b__law_plain_c0 b__law_plain_w0 n [some t] = .nx [some (.fz (lI (strip xs)))]
  | 0, xs, t, _, h => by omega
  | n + 1, xs, t, ht, h => by
    rcases snoc_cases xs with rfl | ⟨ys, a, rfl⟩
    · exact loopW_end (test_nil ht)
    · by_cases ha : a = 0
      · subst ha
        rw [strip_zero]
        have e1 := test_plain ht
        have e2 := turn_plain (ys := ys) (a := 0)
        have ih := loop_plain n ys (.lst ((dI ys).map T.fz)) (by simp) (by simp at h; omega)
        simp only [decide_true] at e1
        simp only [loopW, e1, R.s, e2, ih, if_true]
      · rw [strip_snoc ys ha]
        have e1 := test_plain ht
        rw [decide_eq_false ha] at e1
        exact loopW_end e1
theorem plain_eq {xs : List Int} {d : D} (hd : d = lI xs ∨ d = tI xs) : m__law_plain [.fz d] = .ok (.fz (lI (strip xs))) [] := by
  have l := loop_plain (xs.length + 1) xs (.lst ((dI xs).map T.fz)) (by simp) (by omega)
  simp at l
  rcases hd with rfl | rfl <;> simp [m__law_plain, b__law_plain, fuelL, l]
end DL

set_option maxHeartbeats 1000000
namespace DL
open PySem L2
def b_trimmed_l_c0 : M Bool := fAnd (fTestB (fBin gGt (fVar 1) (fC (.int 0)))) (fTestB (fBin (gEq2 false) (fPeek 0 (fBin gSub (fVar 1) (fC (.int 1)))) (fC (.int 0))))
def b_trimmed_l_w0 : MS := fAug gSub 1 (fC (.int 1))
def b_trimmed_l : MS := fSeq (fSet 1 (fCBl (q1 pLen) [some 0] (fMove 0 fNil))) (fSeq (fWhile (fuelI 1) b_trimmed_l_c0 b_trimmed_l_w0) (fRet (fCB (g1 gTuple) (fCons (fSlL 0 fNoP (fPt (fVar 1))) (fNil)))))
def m_trimmed_l : Mir := mirOf 2 [0] b_trimmed_l

def b_Poly___init___l : MS := fSetF 0 21 "coefficients" (fCall m_trimmed_l [1] [some 1] (fMove 1 (fNil)))
def m_Poly___init___l : Mir := mirOf 2 [0, 1] b_Poly___init___l

def b_trimmed_c0 : M Bool := fAnd (fTestB (fBin gGt (fVar 1) (fC (.int 0)))) (fTestB (fBin (gEq2 false) (fPeek 0 (fBin gSub (fVar 1) (fC (.int 1)))) (fC (.int 0))))
def b_trimmed_w0 : MS := fAug gSub 1 (fC (.int 1))
def b_trimmed : MS := fSeq (fSet 1 (fCB (g1 gLen) (fCons (fVar 0) (fNil)))) (fSeq (fWhile (fuelI 1) b_trimmed_c0 b_trimmed_w0) (fRet (fCB (g1 gTuple) (fCons (fSl (fVar 0) fNoP (fPt (fVar 1))) (fNil)))))
def m_trimmed : Mir := mirOf 2 [] b_trimmed

def b_Poly___init__ : MS := fSetF 0 21 "coefficients" (fCall m_trimmed [] [none] (fCons (fVar 1) (fNil)))
def m_Poly___init__ : Mir := mirOf 2 [0] b_Poly___init__

def b_Poly_degree : MS := fRet (fBin gSub (fCB (g1 gLen) (fCons (fPeekF 0 21 "coefficients") (fNil))) (fC (.int 1)))
def m_Poly_degree : Mir := mirOf 1 [] b_Poly_degree

def b_Poly___call___f0 : MS := fSet 2 (fBin gAdd2 (fBin gMul (fVar 2) (fVar 1)) (fVar 3))
def b_Poly___call__ : MS := fSeq (fSet 2 (fC (.int 0))) (fSeq (fFor (iSeq (fUn gRev (fPeekF 0 21 "coefficients"))) (sName 3) b_Poly___call___f0) (fRet (fVar 2)))
def m_Poly___call__ : Mir := mirOf 4 [] b_Poly___call__

def b_part_at : MS := fSeq (fIfS (fTestB (fBin gGt (fVar 1) (fMeth 21 "degree" m_Poly_degree [] (fVar 0) fNil))) (fRet (fC (.int 0))) (fNext)) (fRet (fBin gIx (fPeekF 0 21 "coefficients") (fVar 1)))
def m_part_at : Mir := mirOf 2 [] b_part_at

def b_Poly___add___e0 : M T := fBin gAdd2 (fCall m_part_at [] [none, none] (fCons (fVar 0) (fCons (fVar 3) (fNil)))) (fCall m_part_at [] [none, none] (fCons (fVar 1) (fCons (fVar 3) (fNil))))
def b_Poly___add__ : MS := fSeq (fSet 2 (fBin gAdd2 (fCB (g2 gMax2) (fCons (fMeth 21 "degree" m_Poly_degree [] (fVar 0) fNil) (fCons (fMeth 21 "degree" m_Poly_degree [] (fVar 1) fNil) (fNil)))) (fC (.int 1)))) (fRet (fMake 21 m_Poly___init__ [none] (fCons (fLc (iArgs range1D (fCons (fVar 2) (fNil))) (sName 3) (fYes) b_Poly___add___e0 [3]) (fNil))))
def m_Poly___add__ : Mir := mirOf 4 [] b_Poly___add__

def b_Poly___sub___e0 : M T := fBin gSub (fCall m_part_at [] [none, none] (fCons (fVar 0) (fCons (fVar 3) (fNil)))) (fCall m_part_at [] [none, none] (fCons (fVar 1) (fCons (fVar 3) (fNil))))
def b_Poly___sub__ : MS := fSeq (fSet 2 (fBin gAdd2 (fCB (g2 gMax2) (fCons (fMeth 21 "degree" m_Poly_degree [] (fVar 0) fNil) (fCons (fMeth 21 "degree" m_Poly_degree [] (fVar 1) fNil) (fNil)))) (fC (.int 1)))) (fRet (fMake 21 m_Poly___init__ [none] (fCons (fLc (iArgs range1D (fCons (fVar 2) (fNil))) (sName 3) (fYes) b_Poly___sub___e0 [3]) (fNil))))
def m_Poly___sub__ : Mir := mirOf 4 [] b_Poly___sub__

def b_product_at_e0 : M T := fBin gMul (fVar 4) (fCall m_part_at [] [none, none] (fCons (fVar 1) (fCons (fBin gSub (fVar 2) (fVar 3)) (fNil))))
def b_product_at_t0 : M Bool := fTestB (fBin gLe (fVar 3) (fVar 2))
def b_product_at : MS := fRet (fCB (g1 gSum) (fCons (fLc (iArgs enumD (fCons (fPeekF 0 21 "coefficients") (fNil))) (sTup (sCons (sName 3) (sCons (sName 4) (sNil)))) (b_product_at_t0) b_product_at_e0 [3, 4]) (fNil)))
def m_product_at : Mir := mirOf 5 [] b_product_at

def b_Poly___mul___e0 : M T := fCall m_product_at [] [none, none, none] (fCons (fVar 0) (fCons (fVar 1) (fCons (fVar 3) (fNil))))
def b_Poly___mul__ : MS := fSeq (fSet 2 (fBin gAdd2 (fCB (g1 gLen) (fCons (fPeekF 0 21 "coefficients") (fNil))) (fCB (g1 gLen) (fCons (fPeekF 1 21 "coefficients") (fNil))))) (fRet (fMake 21 m_Poly___init__ [none] (fCons (fLc (iArgs range1D (fCons (fVar 2) (fNil))) (sName 3) (fYes) b_Poly___mul___e0 [3]) (fNil))))
def m_Poly___mul__ : Mir := mirOf 4 [] b_Poly___mul__

def b_Poly___neg___e0 : M T := fUn gNeg (fVar 1)
def b_Poly___neg__ : MS := fRet (fMake 21 m_Poly___init__ [none] (fCons (fLc (iSeq (fPeekF 0 21 "coefficients")) (sName 1) (fYes) b_Poly___neg___e0 [1]) (fNil)))
def m_Poly___neg__ : Mir := mirOf 2 [] b_Poly___neg__

def b_Poly___eq__ : MS := fSeq (fIfS (fNot (fTest (fCB (g2 (gIsO [21] 21)) (fCons (fVar 1) (fCons (fC (.cls 21)) (fNil)))))) (fRet (fC (.bl false))) (fNext)) (fRet (fBin (gEq2 false) (fPeekF 0 21 "coefficients") (fPeekF 1 21 "coefficients")))
def m_Poly___eq__ : Mir := mirOf 2 [] b_Poly___eq__

def b_Poly_unknown : MS := fRet (fMakeL 0 21 m_Poly___init__ [none] (fCons (fLst (fCons (fC (.int 0)) (fCons (fC (.int 1)) (fNil)))) (fNil)))
def m_Poly_unknown : Mir := mirOf 1 [] b_Poly_unknown

def b_Poly_whole : MS := fRet (fMakeL 0 21 m_Poly___init__ [none] (fCons (fLst (fCons (fVar 1) (fNil))) (fNil)))
def m_Poly_whole : Mir := mirOf 2 [] b_Poly_whole

def b_Poly___str___e0 : M T := fCB (g1 gStr) (fCons (fVar 1) (fNil))
def b_Poly___str__ : MS := fSeq (fIfS (fTestB (fBin gLt (fMeth 21 "degree" m_Poly_degree [] (fVar 0) fNil) (fC (.int 0)))) (fRet (fC (.str "0"))) (fNext)) (fRet (fJoin (fC (.str " ")) (fLc (iSeq (fPeekF 0 21 "coefficients")) (sName 1) (fYes) b_Poly___str___e0 [1])))
def m_Poly___str__ : Mir := mirOf 2 [] b_Poly___str__

/-! ### trimmed -/
theorem strip_take (xs : List Int) : xs.take (strip xs).length = strip xs := by
  refine snoc_ind (P := fun xs => xs.take (strip xs).length = strip xs) rfl (fun xs a ih => ?_) xs
  by_cases h : a = 0
  · subst h
    rw [strip_zero, List.take_append_of_le_length (strip_len xs), ih]
  · rw [strip_snoc xs h, List.take_length]
theorem int_get {xs : List Int} {k : Nat} (h : k < xs.length) : atI (xs.map D.int) (k : Int) = some (.int xs[k]) := atI_nat (by rw [List.getElem?_map, List.getElem?_eq_getElem h]; rfl)
theorem int_getF {xs : List Int} {k : Nat} (h : k < xs.length) : atI (xs.map (T.fz ∘ D.int)) (k : Int) = some (.fz (.int xs[k])) := atI_nat (by rw [List.getElem?_map, List.getElem?_eq_getElem h]; rfl)
theorem loop_trim {xs : List Int} {d : D} (hd : d = lI xs ∨ d = tI xs) : ∀ (n k : Nat), k ≤ xs.length → k < n →
    loopW b_trimmed_c0 b_trimmed_w0 n [some (.fz d), some (.fz (.int (k : Int)))] = .nx [some (.fz d), some (.fz (.int ((strip (xs.take k)).length : Int)))]
  | 0, k, _, h => by omega
  | n + 1, 0, hk, h => by
    refine loopW_end ?_
    simp [b_trimmed_c0]
  | n + 1, k + 1, hk, h => by
    have g := int_get (xs := xs) (k := k) (by omega)
    have tk : xs.take (k + 1) = xs.take k ++ [xs[k]] := by rw [List.take_succ, List.getElem?_eq_getElem (by omega)]; rfl
    have pos : (0 : Int) < (k : Int) + 1 := by omega
    have e1 : b_trimmed_c0 [some (.fz d), some (.fz (.int ((k + 1 : Nat) : Int)))] = .ok (decide (xs[k] = 0)) [some (.fz d), some (.fz (.int ((k + 1 : Nat) : Int)))] := by
      rcases hd with rfl | rfl <;> simp [b_trimmed_c0, g, pos]
    rw [tk]
    by_cases h0 : xs[k] = 0
    · rw [h0, strip_zero]
      have e2 : b_trimmed_w0 [some (.fz d), some (.fz (.int ((k + 1 : Nat) : Int)))] = .nx [some (.fz d), some (.fz (.int (k : Int)))] := by
        simp [b_trimmed_w0]
      have ih := loop_trim hd n k (by omega) (by omega)
      rw [decide_eq_true h0] at e1
      simp only [loopW, e1, R.s, e2, ih, if_true]
    · rw [decide_eq_false h0] at e1
      rw [strip_snoc _ h0, loopW_end e1]
      simp
      omega
theorem trimmed_eq {xs : List Int} {d : D} (hd : d = lI xs ∨ d = tI xs) : m_trimmed [.fz d] = .ok (.fz (tI (strip xs))) [] := by
  have l := loop_trim hd (xs.length + 1) xs.length (Nat.le_refl _) (by omega)
  rw [List.take_length] at l
  have c := cut_take (dI xs) (n := (strip xs).length) (by simp; exact strip_len xs)
  rw [← List.map_take, strip_take] at c
  have ab : (xs.length : Int).natAbs + 1 = xs.length + 1 := by omega
  rcases hd with rfl | rfl <;> simp [m_trimmed, b_trimmed, fuelI, l, -cutD, c]
theorem loop_trimL {xs : List Int} : ∀ (n k : Nat), k ≤ xs.length → k < n →
    loopW b_trimmed_l_c0 b_trimmed_l_w0 n [some (.lst (xs.map (T.fz ∘ D.int))), some (.fz (.int (k : Int)))] = .nx [some (.lst (xs.map (T.fz ∘ D.int))), some (.fz (.int ((strip (xs.take k)).length : Int)))]
  | 0, k, _, h => by omega
  | n + 1, 0, hk, h => by
    refine loopW_end ?_
    simp [b_trimmed_l_c0]
  | n + 1, k + 1, hk, h => by
    have g := int_getF (xs := xs) (k := k) (by omega)
    have tk : xs.take (k + 1) = xs.take k ++ [xs[k]] := by rw [List.take_succ, List.getElem?_eq_getElem (by omega)]; rfl
    have pos : (0 : Int) < (k : Int) + 1 := by omega
    have e1 : b_trimmed_l_c0 [some (.lst (xs.map (T.fz ∘ D.int))), some (.fz (.int ((k + 1 : Nat) : Int)))] = .ok (decide (xs[k] = 0)) [some (.lst (xs.map (T.fz ∘ D.int))), some (.fz (.int ((k + 1 : Nat) : Int)))] := by
      simp [b_trimmed_l_c0, g, pos]
    rw [tk]
    by_cases h0 : xs[k] = 0
    · rw [h0, strip_zero]
      have e2 : b_trimmed_l_w0 [some (.lst (xs.map (T.fz ∘ D.int))), some (.fz (.int ((k + 1 : Nat) : Int)))] = .nx [some (.lst (xs.map (T.fz ∘ D.int))), some (.fz (.int (k : Int)))] := by
        simp [b_trimmed_l_w0]
      have ih := loop_trimL (xs := xs) n k (by omega) (by omega)
      rw [decide_eq_true h0] at e1
      simp only [loopW, e1, R.s, e2, ih, if_true]
    · rw [decide_eq_false h0] at e1
      rw [strip_snoc _ h0, loopW_end e1]
      simp
      omega
theorem trimmedL_eq (xs : List Int) : m_trimmed_l [.lst (xs.map (T.fz ∘ D.int))] = .ok (.fz (tI (strip xs))) [.lst (xs.map (T.fz ∘ D.int))] := by
  have l := loop_trimL (xs := xs) (xs.length + 1) xs.length (Nat.le_refl _) (by omega)
  rw [List.take_length] at l
  have c := cut_take (dI xs) (n := (strip xs).length) (by simp; exact strip_len xs)
  rw [← List.map_take, strip_take] at c
  simp [m_trimmed_l, b_trimmed_l, fuelI, l, -cutD, c]
/-! ### Poly -/
abbrev PoT (xs : List Int) : T := .obj 21 ["coefficients"] [.fz (tI xs)]
abbrev PoD (xs : List Int) : D := .obj 21 ["coefficients"] [tI xs]
theorem init_eq {xs : List Int} {d : D} (hd : d = lI xs ∨ d = tI xs) : m_Poly___init__ [.obj 21 [] [], .fz d] = .ok (.fz .non) [PoT (strip xs)] := by
  have e := trimmed_eq hd
  simp [m_Poly___init__, b_Poly___init__, e]
theorem initL_eq (xs : List Int) : m_Poly___init___l [.obj 21 [] [], .lst (xs.map (T.fz ∘ D.int))] = .ok (.fz .non) [PoT (strip xs), .lst (xs.map (T.fz ∘ D.int))] := by
  have e := trimmedL_eq xs
  simp [m_Poly___init___l, b_Poly___init___l, e]
theorem degree_eq (xs : List Int) : m_Poly_degree [.fz (PoD xs)] = .ok (.fz (.int ((xs.length : Int) - 1))) [] := by
  simp [m_Poly_degree, b_Poly_degree]
end DL

set_option maxHeartbeats 4000000
namespace DL
open PySem L2
theorem loopC_inv {set : T → Env → Option Env} {tst : M Bool} {elt : M T} {vs : List Nat} (Inv : Nat → Env → Prop) (S : T → Prop) (N : Nat) (h : ∀ j d env, j < N → Inv j env → ∃ e1 e2 e3 t, set (.fz d) env = some e1 ∧ tst e1 = .ok true e2 ∧ elt e2 = .ok t e3 ∧ S t ∧ Inv (j + 1) (wipeE e3 vs)) :
    ∀ (ds : List D) (acc : List T) (env : Env) (j : Nat), j + ds.length ≤ N → Inv j env → acc.length + ds.length ≤ sizeLine → ∃ ts env', loopC set tst elt vs ds acc env = .ok (acc ++ ts) env' ∧ ts.length = ds.length ∧ (∀ t ∈ ts, S t) ∧ Inv (j + ds.length) env'
  | [], acc, env, j, _, hi, _ => ⟨[], env, by simp [loopC], rfl, by simp, hi⟩
  | d :: ds, acc, env, j, hj, hi, hl => by
    obtain ⟨e1, e2, e3, t, h1, h2, h3, h4, h5⟩ := h j d env (by simp at hj; omega) hi
    obtain ⟨ts, env', k1, k2, k3, k4⟩ := loopC_inv Inv S N h ds (acc ++ [t]) _ (j + 1) (by simp at hj ⊢; omega) h5 (by simp at hl ⊢; omega)
    have hlt : acc.length < sizeLine := by simp at hl; omega
    refine ⟨t :: ts, env', ?_, by simp [k2], ?_, ?_⟩
    · simp only [loopC, h1, h2, h3, if_pos hlt, k1]
      simp
    · intro u hu
      rcases List.mem_cons.mp hu with rfl | hu
      · exact h4
      · exact k3 u hu
    · have : j + (d :: ds).length = j + 1 + ds.length := by simp; omega
      rw [this]; exact k4
theorem ints_of {S : Int → Prop} : ∀ ts : List T, (∀ t ∈ ts, ∃ p : Int, t = .fz (.int p) ∧ S p) → ∃ ns : List Int, ts = ns.map (T.fz ∘ D.int) ∧ ∀ p ∈ ns, S p
  | [], _ => ⟨[], rfl, by simp⟩
  | t :: ts, h => by
    obtain ⟨p, e, s⟩ := h t (List.mem_cons_self ..)
    obtain ⟨ns, e2, s2⟩ := ints_of ts fun u hu => h u (List.mem_cons_of_mem _ hu)
    refine ⟨p :: ns, by rw [e, e2]; rfl, fun q hq => ?_⟩
    rcases List.mem_cons.mp hq with rfl | hq
    · exact s
    · exact s2 q hq
theorem prI_of {p : Int} (n : Nat) (f : Nat) (e : p = n) (h2 : 2 ≤ n) (h : prGo n f 2 = true) (hs : n < 2 ^ 100) : PrI p := by
  subst e
  refine ⟨by rw [Int.toNat_natCast]; exact pr_of f h2 h, ?_⟩
  rw [Int.natAbs_natCast]
  exact Nat.lt_of_lt_of_le hs (Nat.pow_le_pow_right (by decide) (by decide))
theorem pi2 : PrI 2 := prI_of 2 10 rfl (by decide) (by decide) (by decide)
theorem pi3 : PrI 3 := prI_of 3 10 rfl (by decide) (by decide) (by decide)
theorem pi5 : PrI 5 := prI_of 5 10 rfl (by decide) (by decide) (by decide)
theorem pi7 : PrI 7 := prI_of 7 10 rfl (by decide) (by decide) (by decide)
theorem pi11 : PrI 11 := prI_of 11 10 rfl (by decide) (by decide) (by decide)
theorem pi13 : PrI 13 := prI_of 13 10 rfl (by decide) (by decide) (by decide)
theorem pi59 : PrI 59 := prI_of 59 10 rfl (by decide) (by decide) (by decide)
theorem pi61 : PrI 61 := prI_of 61 10 rfl (by decide) (by decide) (by decide)
theorem pibig : PrI 999983 := prI_of 999983 1000 rfl (by decide) (by decide +kernel) (by decide)
theorem pihuge : PrI 2147483647 := prI_of 2147483647 50000 rfl (by decide) (by decide +kernel) (by decide)
theorem frzs_app : ∀ (a b : List T), frzs (a ++ b) = frzs a ++ frzs b
  | [], b => rfl
  | t :: a, b => by simp [frzs, frzs_app a b]
theorem frzs_map_fz (ds : List D) : frzs (ds.map T.fz) = ds := frzs_fz ds
theorem menu_at {xs : List Int} {r : Int} (h0 : 0 ≤ r) (h : r < xs.length) : ∃ p ∈ xs, atI (xs.map (T.fz ∘ D.int)) r = some (.fz (.int p)) := by
  obtain ⟨n, rfl⟩ : ∃ n : Nat, r = n := ⟨r.toNat, by omega⟩
  have hn : n < xs.length := by omega
  exact ⟨xs[n], List.getElem_mem hn, int_getF hn⟩
end DL

set_option maxHeartbeats 1000000
namespace DL
open PySem L2
@[simp] theorem ne_degree : (Str.ofString "degree" = Str.ofString "coefficients") = False := eq_false (by decide)
/-! ### values -/
def hor (x : Int) (xs : List Int) (v : Int) : Int := xs.foldl (fun v c => v * x + c) v
def val (xs : List Int) (x : Int) : Int := xs.foldr (fun c v => v * x + c) 0
theorem hor_val (x : Int) (xs : List Int) : hor x xs.reverse 0 = val xs x := by unfold hor val; rw [List.foldl_reverse]
theorem loop_call {x : Int} {K : Nat} (hx : Bd 50 x) (hK : K < 1000000) (A : Option T) : ∀ (ys : List Int) (j : Nat) (v : Int) (O : Option T), (∀ c ∈ ys, Bd K c) → Bd (K + 51 * j) v → j + ys.length < 10000 →
    ∃ O', loopF (sName 3) b_Poly___call___f0 (dI ys) [A, some (.fz (.int x)), some (.fz (.int v)), O] = .nx [A, some (.fz (.int x)), some (.fz (.int (hor x ys v))), O']
  | [], j, v, O, _, _, _ => ⟨O, rfl⟩
  | c :: ys, j, v, O, hc, hv, hl => by
    have hl' : j + ys.length + 1 < 10000 := by simpa [Nat.add_assoc] using hl
    have m : mulOk v x = true := hv.mulOk hx (by omega)
    have b : Bd (K + 51 * (j + 1)) (v * x + c) := ((hv.mul hx).add ((hc c (List.mem_cons_self ..)).mono (by omega))).mono (by omega)
    obtain ⟨O', ih⟩ := loop_call hx hK A ys (j + 1) (v * x + c) (some (.fz (.int c))) (fun q hq => hc q (List.mem_cons_of_mem _ hq)) b (by omega)
    exact ⟨O', (loopF_go (e := [A, some (.fz (.int x)), some (.fz (.int v)), some (.fz (.int c))]) (by simp) (by simp [b_Poly___call___f0, m])).trans ih⟩
theorem call_eq {xs : List Int} {x : Int} {K : Nat} (hx : Bd 50 x) (hK : K < 1000000) (hc : ∀ c ∈ xs, Bd K c) (hl : xs.length < 10000) : m_Poly___call__ [.fz (PoD xs), .fz (.int x)] = .ok (.fz (.int (val xs x))) [] := by
  obtain ⟨O', l⟩ := loop_call hx hK (some (.fz (PoD xs))) xs.reverse 0 0 none (by simpa using hc) (Bd.zero _) (by simpa using hl)
  rw [hor_val] at l
  simp [m_Poly___call__, b_Poly___call__, ← List.map_reverse, l]
/-! ### parts -/
/-- the part at k, or 0 -/
def nth (xs : List Int) (k : Nat) : Int := xs.getD k 0
theorem nth_lt {xs : List Int} {k : Nat} (h : k < xs.length) : nth xs k = xs[k] := by unfold nth; rw [List.getD_eq_getElem?_getD, List.getElem?_eq_getElem h]; rfl
theorem nth_ge {xs : List Int} {k : Nat} (h : xs.length ≤ k) : nth xs k = 0 := by unfold nth; rw [List.getD_eq_getElem?_getD, List.getElem?_eq_none h]; rfl
theorem nth_bd {xs : List Int} {K : Nat} (h : ∀ x ∈ xs, Bd K x) (k : Nat) : Bd K (nth xs k) := by
  by_cases hk : k < xs.length
  · rw [nth_lt hk]; exact h _ (List.getElem_mem hk)
  · rw [nth_ge (Nat.le_of_not_lt hk)]; exact Bd.zero K
theorem part_eq (xs : List Int) (k : Nat) : m_part_at [.fz (PoD xs), .fz (.int (k : Int))] = .ok (.fz (.int (nth xs k))) [] := by
  have e := degree_eq xs
  by_cases h : k < xs.length
  · have g := int_get h
    have c : ¬ (xs.length : Int) - 1 < k := by omega
    simp [m_part_at, b_part_at, e, c, g, nth_lt h]
  · have c : (xs.length : Int) - 1 < k := by omega
    simp [m_part_at, b_part_at, e, c, nth_ge (Nat.le_of_not_lt h)]
/-- a row by its parts -/
def tab (n : Nat) (f : Nat → Int) : List Int := (List.range n).map f
theorem tab_len (n : Nat) (f : Nat → Int) : (tab n f).length = n := by simp [tab]
theorem tab_mem {n : Nat} {f : Nat → Int} {x : Int} (h : x ∈ tab n f) : ∃ k, k < n ∧ x = f k := by
  obtain ⟨k, h1, h2⟩ := List.mem_map.mp h
  exact ⟨k, List.mem_range.mp h1, h2.symm⟩
/-- a comprehension over a range -/
theorem loopC_range {tst : M Bool} {elt : M T} {vs : List Nat} {set : T → Env → Option Env} {f : Nat → Int} {env : Env} {n : Nat} (h : ∀ k, k < n → ∃ e1 e2 e3, set (.fz (.int (k : Int))) env = some e1 ∧ tst e1 = .ok true e2 ∧ elt e2 = .ok (.fz (.int (f k))) e3 ∧ wipeE e3 vs = env) (hn : n ≤ sizeLine) :
    loopC set tst elt vs (rangeD 0 n) [] env = .ok ((tab n f).map (T.fz ∘ D.int)) env := by
  have e := loopC_map (set := set) (tst := tst) (elt := elt) (vs := vs) (env := env) (g := fun d => match d with | .int k => .fz (.int (f k.toNat)) | _ => .fz .non) (rangeD 0 n) [] (fun d hd => ?_) (by simp [rangeD]; exact hn)
  · rw [e]
    simp [rangeD, tab]
  · obtain ⟨k, h1, rfl⟩ := List.mem_map.mp hd
    obtain ⟨e1, e2, e3, a1, a2, a3, a4⟩ := h k (List.mem_range.mp h1)
    refine ⟨e1, e2, e3, ?_, a2, ?_, a4⟩
    · rw [← a1]; simp
    · rw [a3]; simp
theorem sizes {n : Nat} (h : n < 10000) : n ≤ sizeLine := Nat.le_of_lt (Nat.lt_of_lt_of_le h (by decide))
theorem max_deg (xs ys : List Int) : (if xs.length < ys.length then (ys.length : Int) - 1 else (xs.length : Int) - 1) + 1 = ((max xs.length ys.length : Nat) : Int) := by
  split <;> omega
theorem add_eq {xs ys : List Int} (hx : xs.length < 1000) (hy : ys.length < 1000) : m_Poly___add__ [.fz (PoD xs), .fz (PoD ys)] = .ok (PoT (strip (tab (max xs.length ys.length) fun k => nth xs k + nth ys k))) [] := by
  have e1 := degree_eq xs
  have e2 := degree_eq ys
  have l := loopC_range (tst := fYes) (elt := b_Poly___add___e0) (vs := [3]) (set := sName 3) (n := max xs.length ys.length) (f := fun k => nth xs k + nth ys k) (env := [some (.fz (PoD xs)), some (.fz (PoD ys)), some (.fz (.int ((max xs.length ys.length : Nat) : Int))), none]) (fun k hk => by
    refine ⟨_, _, [some (.fz (PoD xs)), some (.fz (PoD ys)), some (.fz (.int ((max xs.length ys.length : Nat) : Int))), some (.fz (.int (k : Int)))], rfl, rfl, ?_, rfl⟩
    have p1 := part_eq xs k
    have p2 := part_eq ys k
    simp [b_Poly___add___e0, p1, p2]) (sizes (by omega))
  have rg := range1_nat (n := max xs.length ys.length) (by omega)
  have i := init_eq (xs := tab (max xs.length ys.length) fun k => nth xs k + nth ys k) (.inl rfl)
  have mx := max_deg xs ys
  generalize max xs.length ys.length = n at *
  simp [m_Poly___add__, b_Poly___add__, e1, e2, mx, rg, l, i]
theorem sub_eq {xs ys : List Int} (hx : xs.length < 1000) (hy : ys.length < 1000) : m_Poly___sub__ [.fz (PoD xs), .fz (PoD ys)] = .ok (PoT (strip (tab (max xs.length ys.length) fun k => nth xs k - nth ys k))) [] := by
  have e1 := degree_eq xs
  have e2 := degree_eq ys
  have l := loopC_range (tst := fYes) (elt := b_Poly___sub___e0) (vs := [3]) (set := sName 3) (n := max xs.length ys.length) (f := fun k => nth xs k - nth ys k) (env := [some (.fz (PoD xs)), some (.fz (PoD ys)), some (.fz (.int ((max xs.length ys.length : Nat) : Int))), none]) (fun k hk => by
    refine ⟨_, _, [some (.fz (PoD xs)), some (.fz (PoD ys)), some (.fz (.int ((max xs.length ys.length : Nat) : Int))), some (.fz (.int (k : Int)))], rfl, rfl, ?_, rfl⟩
    have p1 := part_eq xs k
    have p2 := part_eq ys k
    simp [b_Poly___sub___e0, p1, p2]) (sizes (by omega))
  have rg := range1_nat (n := max xs.length ys.length) (by omega)
  have i := init_eq (xs := tab (max xs.length ys.length) fun k => nth xs k - nth ys k) (.inl rfl)
  have mx := max_deg xs ys
  generalize max xs.length ys.length = n at *
  simp [m_Poly___sub__, b_Poly___sub__, e1, e2, mx, rg, l, i]
/-! ### products -/
/-- the sum of first[i] * second[k - i] for i from j on -/
def conv (ys : List Int) (k : Nat) : Nat → List Int → Int
  | _, [] => 0
  | j, x :: xs => (if j ≤ k then x * nth ys (k - j) else 0) + conv ys k (j + 1) xs
def convL (ys : List Int) (k : Nat) : Nat → List Int → List Int
  | _, [] => []
  | j, x :: xs => if j ≤ k then x * nth ys (k - j) :: convL ys k (j + 1) xs else convL ys k (j + 1) xs
theorem convL_sum (ys : List Int) (k : Nat) : ∀ (j : Nat) (xs : List Int), (convL ys k j xs).sum = conv ys k j xs
  | _, [] => rfl
  | j, x :: xs => by
    unfold convL conv
    split
    · rw [List.sum_cons, convL_sum ys k (j + 1) xs]
    · rw [convL_sum ys k (j + 1) xs]; omega
theorem ints_back (ns : List Int) : intsD (ns.map D.int) = some ns := by
  induction ns with
  | nil => rfl
  | cons n ns ih => simp [ih]
theorem loop_prod {ys : List Int} {k K : Nat} (hK : K < 10000) (hy : ∀ y ∈ ys, Bd K y) (A : Option T) : ∀ (xs : List Int) (j : Nat) (acc : List T), (∀ x ∈ xs, Bd K x) → acc.length + xs.length ≤ sizeLine →
    loopC (sTup (sCons (sName 3) (sCons (sName 4) sNil))) b_product_at_t0 b_product_at_e0 [3, 4] (enumL j (dI xs)) acc [A, some (.fz (PoD ys)), some (.fz (.int (k : Int))), none, none] =
      .ok (acc ++ (convL ys k j xs).map (T.fz ∘ D.int)) [A, some (.fz (PoD ys)), some (.fz (.int (k : Int))), none, none]
  | [], j, acc, _, _ => by simp [enumL, loopC, convL]
  | x :: xs, j, acc, hx, hl => by
    have hlt : acc.length < sizeLine := by simp at hl; omega
    by_cases hj : j ≤ k
    · have ih := loop_prod (k := k) hK hy A xs (j + 1) (acc ++ [.fz (.int (x * nth ys (k - j)))]) (fun q hq => hx q (List.mem_cons_of_mem _ hq)) (by simp at hl ⊢; omega)
      have p := part_eq ys (k - j)
      have ek : (k : Int) - (j : Int) = ((k - j : Nat) : Int) := by omega
      have m : mulOk x (nth ys (k - j)) = true := (hx x (List.mem_cons_self ..)).mulOk (nth_bd hy _) (by omega)
      have hj' : (j : Int) ≤ (k : Int) := by omega
      have t : b_product_at_t0 [A, some (.fz (PoD ys)), some (.fz (.int (k : Int))), some (.fz (.int (j : Int))), some (.fz (.int x))] = .ok true [A, some (.fz (PoD ys)), some (.fz (.int (k : Int))), some (.fz (.int (j : Int))), some (.fz (.int x))] := by simp [b_product_at_t0, hj]
      have x : b_product_at_e0 [A, some (.fz (PoD ys)), some (.fz (.int (k : Int))), some (.fz (.int (j : Int))), some (.fz (.int x))] = .ok (.fz (.int (x * nth ys (k - j)))) [A, some (.fz (PoD ys)), some (.fz (.int (k : Int))), some (.fz (.int (j : Int))), some (.fz (.int x))] := by simp [b_product_at_e0, ek, p, m]
      simp only [dI, List.map_cons, enumL] at ih ⊢
      rw [loopC]
      simp [t, x, hj, hlt, convL]
      simpa using ih
    · have ih := loop_prod (k := k) hK hy A xs (j + 1) acc (fun q hq => hx q (List.mem_cons_of_mem _ hq)) (by simp at hl ⊢; omega)
      have t : b_product_at_t0 [A, some (.fz (PoD ys)), some (.fz (.int (k : Int))), some (.fz (.int (j : Int))), some (.fz (.int x))] = .ok false [A, some (.fz (PoD ys)), some (.fz (.int (k : Int))), some (.fz (.int (j : Int))), some (.fz (.int x))] := by simp [b_product_at_t0, hj]
      simp only [dI, List.map_cons, enumL] at ih ⊢
      rw [loopC]
      simp [t, hj, convL]
      simpa using ih
theorem prod_eq {xs ys : List Int} {K : Nat} (k : Nat) (hK : K < 10000) (hx : ∀ x ∈ xs, Bd K x) (hy : ∀ y ∈ ys, Bd K y) (hl : xs.length < 1000) : m_product_at [.fz (PoD xs), .fz (PoD ys), .fz (.int (k : Int))] = .ok (.fz (.int (conv ys k 0 xs))) [] := by
  have l := loop_prod (k := k) hK hy (some (.fz (PoD xs))) xs 0 [] hx (by simp; exact sizes (by omega))
  have s := convL_sum ys k 0 xs
  have b := ints_back (convL ys k 0 xs)
  simp at l
  simp [m_product_at, b_product_at, l, b, s]
theorem mul_eq {xs ys : List Int} {K : Nat} (hK : K < 10000) (hx : ∀ x ∈ xs, Bd K x) (hy : ∀ y ∈ ys, Bd K y) (lx : xs.length < 1000) (ly : ys.length < 1000) : m_Poly___mul__ [.fz (PoD xs), .fz (PoD ys)] = .ok (PoT (strip (tab (xs.length + ys.length) fun k => conv ys k 0 xs))) [] := by
  have l := loopC_range (tst := fYes) (elt := b_Poly___mul___e0) (vs := [3]) (set := sName 3) (n := xs.length + ys.length) (f := fun k => conv ys k 0 xs) (env := [some (.fz (PoD xs)), some (.fz (PoD ys)), some (.fz (.int ((xs.length + ys.length : Nat) : Int))), none]) (fun k hk => by
    refine ⟨_, _, [some (.fz (PoD xs)), some (.fz (PoD ys)), some (.fz (.int ((xs.length + ys.length : Nat) : Int))), some (.fz (.int (k : Int)))], rfl, rfl, ?_, rfl⟩
    have p := prod_eq k hK hx hy lx
    simp [b_Poly___mul___e0, p]) (sizes (by omega))
  have rg := range1_nat (n := xs.length + ys.length) (by omega)
  have i := init_eq (xs := tab (xs.length + ys.length) fun k => conv ys k 0 xs) (.inl rfl)
  have c : (xs.length : Int) + (ys.length : Int) = ((xs.length + ys.length : Nat) : Int) := by omega
  generalize xs.length + ys.length = n at *
  simp [m_Poly___mul__, b_Poly___mul__, c, rg, l, i]
theorem loopC_ints {set : T → Env → Option Env} {tst : M Bool} {elt : M T} {vs : List Nat} {env : Env} {f : Int → D} {xs : List Int} (h : ∀ x ∈ xs, ∃ e1 e2 e3, set (.fz (.int x)) env = some e1 ∧ tst e1 = .ok true e2 ∧ elt e2 = .ok (.fz (f x)) e3 ∧ wipeE e3 vs = env) (hn : xs.length ≤ sizeLine) :
    loopC set tst elt vs (dI xs) [] env = .ok (xs.map (T.fz ∘ f)) env := by
  have l := loopC_map (set := set) (tst := tst) (elt := elt) (vs := vs) (env := env) (g := fun d => match d with | .int k => .fz (f k) | _ => .fz .non) (dI xs) [] (fun d hd => by
    obtain ⟨k, h1, rfl⟩ := List.mem_map.mp hd
    exact h k h1) (by simpa using hn)
  rw [l]
  simp [List.map_map, Function.comp_def]
theorem neg_eq (xs : List Int) (hl : xs.length < 1000) : m_Poly___neg__ [.fz (PoD xs)] = .ok (PoT (strip (xs.map fun x => -x))) [] := by
  have l := loopC_ints (set := sName 1) (tst := fYes) (elt := b_Poly___neg___e0) (vs := [1]) (env := [some (.fz (PoD xs)), none]) (f := D.int ∘ fun x => -x) (xs := xs) (fun k hd =>
    ⟨_, _, [some (.fz (PoD xs)), some (.fz (.int k))], rfl, rfl, by simp [b_Poly___neg___e0], rfl⟩) (sizes (by omega))
  have i : m_Poly___init__ [.obj 21 [] [], .fz (.lst (xs.map (D.int ∘ fun x => -x)))] = .ok (.fz .non) [PoT (strip (xs.map fun x => -x))] := by rw [← List.map_map]; exact init_eq (.inl rfl)
  simp [m_Poly___neg__, b_Poly___neg__, l, i]
/-! ### equality, unknown, whole, text -/
theorem eq_eq (xs ys : List Int) : m_Poly___eq__ [.fz (PoD xs), .fz (PoD ys)] = .ok (.fz (.bl (decide (xs = ys)))) [] := by
  simp [m_Poly___eq__, b_Poly___eq__]
theorem eq_other (xs : List Int) {d : D} (h : isO [21] 21 d = some false) : m_Poly___eq__ [.fz (PoD xs), .fz d] = .ok (.fz (.bl false)) [] := by
  simp [m_Poly___eq__, b_Poly___eq__, -isO, h]
theorem unknown_eq : m_Poly_unknown [.fz (.cls 21)] = .ok (PoT [0, 1]) [] := by
  have i := init_eq (xs := [0, 1]) (.inl rfl)
  have z : (2 : Nat) ≤ sizeLine := by decide
  have s : strip [0, 1] = [0, 1] := by decide
  simp only [s, lI, List.map_cons, List.map_nil] at i
  simp [m_Poly_unknown, b_Poly_unknown, z, i]
theorem whole_eq (n : Int) : m_Poly_whole [.fz (.cls 21), .fz (.int n)] = .ok (PoT (strip [n])) [] := by
  have i := init_eq (xs := [n]) (.inl rfl)
  have z : (1 : Nat) ≤ sizeLine := by decide
  simp only [lI, List.map_cons, List.map_nil] at i
  simp [m_Poly_whole, b_Poly_whole, z, i]
end DL

set_option maxHeartbeats 4000000
namespace DL
open PySem PySem.Spec PyProof.Rows L2
/-! ### texts -/
section
variable {X : Cx} {G : Sg} {W : WX} {Z : Wd} {a b c e o : Expr} {es : List Expr} {fa fb fc fo : M T} {fs : M (List T)} {src : List (Option Nat)} {p p2 pos apos : Pos}
/-- a sign in a text -/
@[simp] def gInS (neg : Bool) : D → D → Option T
  | .str x, .str z => match x.cps.toList with
    | [c] => some (.fz (.bl (if neg then !decide (c ∈ z.cps.toList) else decide (c ∈ z.cps.toList))))
    | _ => none
  | _, _ => none
theorem one_sign {x : Str} {c : Nat} (h : x.cps.toList = [c]) : x = ⟨#[c]⟩ := by
  obtain ⟨cps⟩ := x
  congr 1
  exact Array.ext' (by simpa using h)
theorem gInS_ok {neg : Bool} {H : Hp} {rs : List (V × T)} {v1 v2 : V} {d1 d2 : D} {t : T} {Q : VK} (ro : Roots Z H ((v2, .fz d2) :: (v1, .fz d1) :: rs)) (e : gInS neg d1 d2 = some t) (k : ∀ H' v, Roots Z H' ((v, t) :: rs) → Q v H') :
    ∃ (c : Nat) (z : Str), v1 = .str ⟨#[c]⟩ ∧ v2 = .str z ∧ Q (.bl (if neg then !decide (c ∈ z.cps.toList) else decide (c ∈ z.cps.toList))) H := by
  obtain ⟨p1, p2⟩ := ro.pair
  unfold gInS at e
  split at e
  · rename_i x z
    split at e
    · rename_i c hc
      cases e
      have e1 : v1 = .str x := p1
      have e2 : v2 = .str z := p2
      exact ⟨c, z, by rw [e1, one_sign hc], e2, k H _ (Roots.add ro.drop2 fun _ => rfl)⟩
    · cases e
  · cases e
theorem od_inS : OpD X Z (compareOp .In) (gInS false) := ⟨_, op_inS, fun H rs v1 v2 d1 d2 t Q ro e k => gInS_ok ro e k⟩
theorem od_notinS : OpD X Z (compareOp .NotIn) (gInS true) := ⟨_, op_notInS, fun H rs v1 v2 d1 d2 t Q ro e k => gInS_ok ro e k⟩
/-- for c in text -/
@[simp] def ofSt (e : Env) : D → R (List D)
  | .str x => .ok (x.cps.toList.map fun c => D.str ⟨#[c]⟩) e
  | _ => .no
@[simp] def iStrD (f : M T) (env : Env) : R (List D) := (f env).bind fun t e => ofSt e (frz t)
theorem dwalk_str {x : Str} : DWalk Z (Its x) [] (x.cps.toList.map fun c => D.str ⟨#[c]⟩) where
  go := fun i H rs hi ro => by
    show i < x.cps.size
    simpa using hi
  stop := fun H rs ro => by
    show x.cps.size ≤ _
    simp
  yld := fun i H H' v rs d hd ro y => by
    obtain ⟨rfl, c, hc, rfl⟩ := y
    have : d = .str ⟨#[c]⟩ := by
      rw [List.getElem?_map, Array.getElem?_toList, hc] at hd
      cases hd; rfl
    subst this
    exact Roots.add ro fun _ => rfl
theorem di_str {tg : Expr} (ha : DE X G W a fa) : DI X G W tg a (iStrD fa) := fun gd =>
  (pi_str (ha gd)).imp fun σ H R ⟨env, ex, r, h⟩ => rd_then r h fun H' v t e r' h' => by
    have r2 := r'.freeze
    unfold ofSt at h'
    split at h'
    · rename_i x et
      rw [et] at r2
      have ev : v = .str x := r2.out1.fz
      exact ⟨x, ev, h' H' _ _ dwalk_str r2.drop⟩
    · exact h'.elim
/-- int(text) -/
@[simp] def gIntS : D → Option T
  | .str a => match PySem.intText? a with
    | some n => if a.length ≤ 640 then some (.fz (.int n)) else none
    | none => none
  | _ => none
theorem cd_intS : CallD X Z (.type "int") (g1 gIntS) := cd_1 call_int_str fun H rs v d t Q ro e k => by
  unfold gIntS at e
  split at e
  · rename_i x
    split at e
    · rename_i n hn
      split at e
      · rename_i hl
        cases e
        exact ⟨x, n, congrArg (fun x => [x]) ro.fz, hn, hl, k H _ (Roots.add ro.drop fun _ => rfl)⟩
      · cases e
    · cases e
  · cases e
theorem c_intS (hm : X.mg "int" = none) (ha : DA X G W [a] src fs) (hg : Gl X "int" := by rfl) (he : starEach [a] X.env = (false, eval a X.env) :: starEach [] X.env := by rfl) : DE X G W (.Call (.Name "int" p) [a] [] pos) (fCB (g1 gIntS) fs) := de_callTy cd_intS hg hm bt_int ha (he := he)
/-- text.split(sep) -/
@[simp] def splitD (x y : D) : Option T := match x, y with
  | .str a, .str b => if (b.length == 0) = false ∧ a.length + 2 ≤ sizeLine then some (.lst ((Txt.split a b).map fun z => .fz (.str z))) else none
  | _, _ => none
@[simp] def fSplit (fo fa : M T) (env : Env) : R T := (fo env).bind fun t e => if isStr (frz t) = true then (fa e).bind fun u e2 => ofO e2 (splitD (frz t) (frz u)) else .no
theorem Roots.strs {H : Hp} {rs : List (V × T)} (h : Roots Z H rs) : ∀ ns : List Str, Roots Z H ((ns.map V.str).zip (ns.map fun i => T.fz (.str i)) ++ rs)
  | [] => h
  | n :: ns => Roots.add (Roots.strs h ns) fun _ => rfl
theorem dsplit (ho : DE X G W o fo) (ha : DE X G W a fa) (hs : starEach [a] X.env = [(false, eval a X.env)] := by rfl) (hbase : attributeBase o "split" X.env (eval o X.env) = eval o X.env := by rfl) (hline : (apos.endLine == pos.line) = true := by rfl) :
    DE X G W (.Call (.Attribute o "split" apos) [a] [] pos) (fSplit fo fa) := fun gd =>
  (pe_split (ho gd) (ha gd) hs hbase hline).imp fun σ H Q ⟨env, ex, r, h⟩ => rd_then r h fun H1 v t e1 r1 h1 => by
    split at h1
    · rename_i hst
      have r1 := r1.freeze
      cases et : frz t with
      | str a =>
        rw [et] at r1 h1
        have ev : v = .str a := r1.out1.fz
        refine ⟨⟨a, ev⟩, e1, (v, .fz (.str a)) :: ex, r1, aft_more (l := [_]) (aft_bind h1) fun u e2 q H2 w r2 => ?_⟩
        have r3 := r2.freeze
        cases eu : frz u with
        | str b =>
          rw [eu] at q r3
          have ew : w = .str b := r3.out1.fz
          simp only [splitD] at q
          split at q
          · rename_i hz
            refine ⟨a, b, ev, by rw [ew], hz.1, hz.2, fun p hp => ?_⟩
            exact q _ _ (r3.drop.drop.back1 (Roots.newL (vs := (Txt.split a b).map V.str) (by simp) (Roots.strs r3.drop.drop.2.2 _) hp))
          · exact q.elim
        | _ => rw [eu] at q; exact q.elim
      | _ => rw [et] at hst; cases hst
    · exact h1.elim
/-- text * n -/
def repX (x : Str) (n : Int) : Str := ⟨(List.replicate n.toNat x.cps).foldl (· ++ ·) #[]⟩
theorem fold_size (a : Array Nat) : ∀ (k : Nat) (acc : Array Nat), ((List.replicate k a).foldl (· ++ ·) acc).size = acc.size + k * a.size
  | 0, acc => by simp
  | k + 1, acc => by
    rw [List.replicate_succ, List.foldl_cons, fold_size a k]
    simp [Nat.succ_mul]
    omega
theorem repX_len (x : Str) (n : Int) : (repX x n).length = n.toNat * x.length := by
  show ((List.replicate n.toNat x.cps).foldl (· ++ ·) #[]).size = _
  rw [fold_size]
  simp [Str.length]
@[simp] def gRepS : D → D → Option T
  | .str x, .int n => if 2 ≤ n ∧ n ≤ 100000 ∧ x.length = 1 then some (.fz (.str (repX x n))) else none
  | _, _ => none
theorem op_repS : OpR X (binaryOp .Mult) (fun x y H Q => ∃ i n, x = .str i ∧ y = .int n ∧ 2 ≤ n ∧ n ≤ 100000 ∧ i.length = 1 ∧ Q (.str (repX i n)) H) := by
  intro pins s σ H x y v u Q I rx ry h
  obtain ⟨i, n, rfl, rfl, h1, h2, h3, q⟩ := h
  obtain ⟨t, rfl⟩ := rx
  obtain ⟨t', rfl⟩ := ry
  have e1 : (n == 1 || i.length == 0) = false := by
    have : n ≠ 1 := by omega
    have h4 : i.length ≠ 0 := by omega
    simp [this, h4]
  refine PySem.P.mul_str (by
    have a1 : ¬ n < -(2 ^ 63 : Int) := by omega
    have a2 : ¬ n ≥ 2 ^ 63 := by omega
    rw [decide_eq_false a1, decide_eq_false a2]; rfl) (fun _ _ => ?_) (fun _ _ => ?_) ?_
  · rw [h3]
    have : (1 : Int) ≤ (2 ^ 63 - 1) / n := by
      rw [Int.le_ediv_iff_mul_le (by omega)]
      omega
    omega
  · rw [h3]
    have h5 : 1 * n.toNat ≤ 100000 := by omega
    have h6 : ¬ 1 * n.toNat > sizeLine := by rw [sizeLine_eq]; omega
    exact decide_eq_false h6
  · rw [if_neg (by omega), e1]
    have hl := repX_len i n
    rw [h3] at hl
    refine ⟨?_, .str (repX i n), H, I.tok _, ⟨_, rfl⟩, q⟩
    show (repX i n).length ≤ sizeLine
    rw [hl, sizeLine_eq]
    omega
theorem od_repS : OpD X Z (binaryOp .Mult) gRepS := ⟨_, op_repS, fun H rs v1 v2 d1 d2 t Q ro e k => by
  obtain ⟨p1, p2⟩ := ro.pair
  unfold gRepS at e
  split at e
  · rename_i x n
    split at e
    · rename_i hz
      cases e
      exact ⟨x, n, p1, p2, hz.1, hz.2.1, hz.2.2, k H _ (Roots.add ro.drop2 fun _ => rfl)⟩
    · cases e
  · cases e⟩
end
end DL

set_option maxHeartbeats 4000000
namespace DL
open PySem PySem.Spec PyProof.Rows L2
/-! ### return x: the slot's tree itself goes out -/
section
variable {X : Cx} {G : Sg} {W : WX} {p pos : Pos}
@[simp] def fRetM (i : Nat) (env : Env) : RS := match env[i]? with
  | some (some t) => .rt t (env.set i none)
  | _ => .no
theorem dretM (i : Nat) {x : Str} (hN : X.N[i]? = some x := by rfl) (hv : Vis X.env.scope x := by first | exact Or.inl rfl | exact Or.inr (Or.inl rfl) | exact Or.inr (Or.inr rfl)) (hd : (x == ("__debug__" : Str)) = false := by decide)
    (hcd : (x == ("__classdict__" : Str)) = false := by decide) : DS X G W (.Return (some (.Name x p)) pos) (fRetM i) := fun gd =>
  (ps_ret (pe_var hN hv hd hcd)).imp fun D σ H ⟨env, ex, r, h⟩ => by
    unfold fRetM at h
    split at h
    · rename_i t et
      obtain ⟨v, ev, r1⟩ := r.take et
      exact ⟨v, ev, h σ H v r1⟩
    · exact h.elim
end
end DL

set_option maxHeartbeats 4000000
namespace DL
open PySem PySem.Spec PyProof.Rows L2
/-! ### f(e, ..), f changes what it is given, which is new here: it is forgotten behind the call -/
@[simp] def dropF (n : Nat) (e : Env) : RF → R T
  | .ok t us => if us.length = n then .ok t e else .no
  | .ex x us => if us.length = n then .ex x e else .no
  | .no => .no
@[simp] def fCallT (m : Mir) (kp : List (Option Nat)) (n : Nat) (fs : M (List T)) (env : Env) : R T := (fs env).bind fun ts e => dropF n e (m (frzA kp ts))
section
variable {G : Sg} {W : WX} {H : Hp} {σ : L2.St} {e : Env} {ex : List (V × T)}
theorem rd_callT {m : Mir} {n : Nat} {io : List Nat} {kp : List (Option Nat)} {ts : List T} {vs : List V} {Q : VK} {P : T → Env → Prop} (hP : ∀ t e H' v, P t e → Rel G H' σ e ((v, t) :: ex) → Q v H')
    (r : Rel G H σ e (vs.zip ts ++ ex)) (hl : vs.length = ts.length) (hn : vs.length = n) (h : Aft (XOk G W σ ex) P (dropF io.length e (m (frzA kp ts)))) : spOf G.Z n io m vs H Q (fun cls d H' => W cls d σ H') := by
  refine ⟨frzA kp ts, slots σ e ++ ex, hn, by rw [frzA_len, ← hl]; exact hn, Roots.frzA r.out, ?_⟩
  have back : ∀ {H' : Hp} {us : List T} {l : List (V × T)}, Roots G.Z H' (l ++ ((ioV io vs).zip us ++ (slots σ e ++ ex))) → Rel G H' σ e (l ++ ex) := by
    intro H' us l q
    have q1 : Rel G H' σ e ((ioV io vs).zip us ++ (l ++ ex)) := r.back (l := (ioV io vs).zip us) (q.perm ((perm3 ..).trans (List.Perm.append_left _ (perm3 ..))))
    exact q1.drops
  cases em : m (frzA kp ts) with
  | no => rw [em] at h; exact h
  | ok t us =>
    rw [em] at h
    have h : Aft (XOk G W σ ex) P (if us.length = io.length then .ok t e else .no) := h
    split at h
    · rename_i hu
      exact ⟨hu, fun H' v q => hP t _ H' v h (back (l := [(v, t)]) q)⟩
    · exact h.elim
  | ex x us =>
    rw [em] at h
    have h : Aft (XOk G W σ ex) P (if us.length = io.length then .ex x e else .no) := h
    split at h
    · rename_i hu
      refine ⟨hu, ?_⟩
      have h : XOk G W σ ex e x := h
      unfold XOk at h
      unfold XF
      cases ed : x.d with
      | none =>
        rw [ed] at h
        exact fun H' q => h H' (back (l := []) q)
      | some p =>
        rw [ed] at h
        exact fun H' dx q => h H' dx (back (l := [_]) q)
    · exact h.elim
end
theorem dcallT {X : Cx} {io0 : List Nat} {s0 : L2.St} {n : Nat} {hot : Bool} {C : Nat → Addr} {W : WX} {e : Expr} {es : List Expr} {fs : M (List T)} {src : List (Option Nat)} {k : Nat} {ps : List Str} {io : List Nat} {m : Mir} {x : Str} {p pos : Pos}
    (F : Df X.prog X.w X.K X.mg X.base C x k ps io m) (kp : List (Option Nat)) (hr : Room k X.A) (ha : DA X ⟨⟨X.K, C⟩, io0, s0, n, hot⟩ W (e :: es) src fs) (hsl : src.length = ps.length := by rfl) {nn : Nat} (hnn : io.length = nn := by rfl) (hg : Gl X x := by rfl)
    (hdb : (x == ("__debug__" : Str)) = false := by decide) (he : starEach (e :: es) X.env = (false, eval e X.env) :: starEach es X.env := by rfl) (hpl : (backTo pos (starEach es X.env)).any (·.1) = false := by rfl) :
    DE X ⟨⟨X.K, C⟩, io0, s0, n, hot⟩ W (.Call (.Name x p) (e :: es) [] pos) (fCallT m kp nn fs) := fun gd => by
  subst hnn
  obtain ⟨f, fd, h1, h2, h3, h4⟩ := F.ex
  exact (pe_callS h4 hr hg h1 h2 h3 (fun σ => passAt gd.tk σ) (ha gd) hdb he hpl).imp fun σ H Q ⟨env, ex, r, h⟩ => ⟨env, ex, r, aft_more (l := []) (aft_bind h) fun ts e p H2 vs hl hs hsrc r2 =>
    rd_callT (G := ⟨⟨X.K, C⟩, io0, s0, n, hot⟩) (P := fun t e => ∀ H' v, Rel _ H' σ e ((v, t) :: ex) → Q v H') (fun t e H' v q r' => q H' v r') r2 hl (by rw [hl, ← hs]; exact hsl) p⟩
end DL

set_option maxHeartbeats 4000000
namespace DL
open PySem PySem.Spec PyProof.Rows L2
/-! ### a, b = a list -/
@[simp] def sLst (ss : List D → Env → Option Env) (t : T) (env : Env) : Option Env := match frz t with
  | .lst ds => ss ds env
  | _ => none
section
variable {X : Cx} {G : Sg} {W : WX} {pos : Pos} {es : List Expr}
theorem Rel.lstO {H : Hp} {σ : L2.St} {env : Env} {ex : List (V × T)} {v : V} {ds : List D} (r : Rel G H σ env ((v, .fz (.lst ds)) :: ex)) : ∃ a vs, v = .ref a ∧ SqL G.Z.K H a vs ∧ vs.length = ds.length ∧ Rel G H σ env (vs.zip (ds.map T.fz) ++ ex) := by
  obtain ⟨p, vs, e, q, l, ro⟩ := r.out1.openL
  exact ⟨p, vs, e, q, l, r.back ro⟩
theorem dg_lst {k n : Nat} {ss : List D → Env → Option Env} {ws : List Nat} (h : DGs X G W es ws ss) (hn : (assignEach es X.env).length = n := by rfl) (hst : (assignEach es X.env).findIdx? (·.1) = none := by rfl)
    (hl : ∀ ds env e, ss ds env = some e → ds.length = n) (hh : G.hot = false := by rfl) : DG X G W (.Tuple es k pos) ws (sLst ss) := fun gd =>
  (pg_lst (gd.calm hh) (h gd) hn hst).imp fun v σ H Q ⟨env, ex, t, r, e, he, h⟩ => by
    unfold sLst at he
    split at he
    · rename_i ds et
      have r2 := r.freeze
      rw [et] at r2
      obtain ⟨a, vs, ev, q, el, r3⟩ := r2.lstO
      exact ⟨a, vs, ev, by rw [← gd.hK]; exact q, el.trans (hl ds env e he), env, ex, ds, el, r3, e, he, h⟩
    · cases he
end
end DL

set_option maxHeartbeats 4000000
/-! list(zip(..)) of any number of lists and tuples -/
namespace ZN
open PySem PySem.Spec PyProof.Rows
theorem typeCall (args : List Value) : checkTypeCall "zip" ⟨args, []⟩ = pure () := by kernel_rfl
theorem newCall (a : Value) (args : List Value) : checkBuiltinCall "zip.__new__" ⟨.type "zip" :: a :: args, []⟩ = pure () := by kernel_rfl
theorem argsInit (args : List Value) (obj : Value) : argsOk "object.__init__" ⟨obj :: args, []⟩ := by
  unfold argsOk; rw [signature?_of (id := "object.__init__") (n := ['_', '_', 't', 'i', 'n', 'i', '_', '_']) (o := ['t', 'c', 'e', 'j', 'b', 'o']) (by kernel_rfl) F.owner_object]; kernel_rfl
structure Zi where
  it : Addr
  l : Addr
  tp : Bool
def ItI (h : Heap) (k : Nat) (p : Zi) : Prop := if p.tp then h.IsTupleIter p.it p.l k else h.IsListIter p.it p.l k
def SqC (h : Heap) (p : Zi) (xs : Array Value) : Prop := if p.tp then h.IsTuple p.l xs else h.IsList p.l xs
theorem ItI.at {h h' : Heap} {k : Nat} {p : Zi} (q : ItI h k p) (e : ∀ o, h.get? p.it = some o → h'.get? p.it = some o) : ItI h' k p := by
  unfold ItI at q ⊢
  cases c : p.tp <;> simp only [c, Bool.false_eq_true, if_true, if_false] at q ⊢
  · exact Heap.IsListIter.at q e
  · exact Heap.IsTupleIter.at q e
theorem SqC.at {h h' : Heap} {p : Zi} {xs : Array Value} (q : SqC h p xs) (e : ∀ o, h.get? p.l = some o → h'.get? p.l = some o) : SqC h' p xs := by
  unfold SqC at q ⊢
  cases c : p.tp <;> simp only [c, Bool.false_eq_true, if_true, if_false] at q ⊢
  · exact Heap.IsList.at q e
  · exact Heap.IsTuple.at q e
section
variable {prog : Program} {w : World} {A : Around} {E : Value → Shared → Prop} {s : Shared}
theorem next_item {p : Zi} {k : Nat} {xs : Array Value} {x : Value} {Q : Value → Shared → Prop} (hi : ItI s.heap k p) (hl : SqC s.heap p xs) (hx : xs[k]? = some x)
    (hQ : ∀ h', ItI h' (k + 1) p → Heap.SameBut p.it s.heap h' → Q x { s with heap := h' }) : wpAny (model prog w) A (Builtin.SmallTypes.nextOf (.ref p.it)) Q E s := by
  cases ht : p.tp with
  | true =>
    unfold ItI at hi hQ; unfold SqC at hl
    simp only [ht, if_true] at hi hl hQ
    exact RZ.nextOf_tuple_item hi hl hx hQ
  | false =>
    unfold ItI at hi hQ; unfold SqC at hl
    simp only [ht, Bool.false_eq_true, if_false] at hi hl hQ
    exact wpAny_nextOf_list_item hi hl hx hQ
theorem next_end {p : Zi} {k : Nat} {xs : Array Value} {Q : Value → Shared → Prop} (hh : A.handled = none) (hi : ItI s.heap k p) (hl : SqC s.heap p xs) (hx : xs[k]? = none)
    (hE : ∀ h' e, Heap.ExtBut p.it s.heap h' → (∃ o, h'.get? e = some o ∧ o.cls = .type "StopIteration") → E (.ref e) { s with heap := h' }) : wpAny (model prog w) A (Builtin.SmallTypes.nextOf (.ref p.it)) Q E s := by
  cases ht : p.tp with
  | true =>
    unfold ItI at hi; unfold SqC at hl
    simp only [ht, if_true] at hi hl
    exact RZ.nextOf_tuple_end hh hi hl hx hE
  | false =>
    unfold ItI at hi; unfold SqC at hl
    simp only [ht, Bool.false_eq_true, if_false] at hi hl
    exact wpAny_nextOf_list_end hh hi hl hx hE
/-- a loop over a list -/
theorem forIn_go {α β : Type} {M : Model} {f : α → β → Sem (ForInStep β)} (P : List α → β → Shared → Prop)
    (hs : ∀ a rest b s, P (a :: rest) b s → wpAny M A (f a b) (fun r s' => ∃ b', r = .yield b' ∧ P rest b' s') E s) : ∀ (l : List α) (b : β) (s : Shared) {Q : β → Shared → Prop}, P l b s → (∀ b s, P [] b s → Q b s) → wpAny M A (forIn l b f) Q E s := by
  intro l
  induction l with
  | nil => intro b s Q h hq; exact wpAny_pure (hq b s h)
  | cons a l ih =>
    intro b s Q h hq
    rw [List.forIn_cons]
    refine wpAny_bind (wpAny_mono (hs a l b s h) (fun r s' ⟨b', e, h'⟩ => ?_) fun _ _ x => x)
    subst e
    exact ih b' s' h' hq
structure Apart (z TI TO : Addr) (zs : List Zi) : Prop where
  nd : (z :: TO :: zs.map (·.it)).Nodup
  ti : TI ∉ z :: TO :: zs.map (·.it)
  ls : ∀ p ∈ zs, p.l ∉ z :: TO :: zs.map (·.it)
abbrev TupAt (h : Heap) (a : Addr) (xs : List Value) : Prop := h.get? a = some { cls := .type "tuple", data := .seq xs.toArray }
theorem step_free {z TI TO : Addr} {k : Nat} {zs : List (Zi × Value)} {tl : List Value} {Q : Value → Shared → Prop} (D : Apart z TI TO (zs.map (·.1))) (hn : zs ≠ []) (hzl : zs.length ≤ sizeLine)
    (hz : IsZip s.heap z TI TO .none) (hTI : TupAt s.heap TI (zs.map fun p => .ref p.1.it)) (hTO : TupAt s.heap TO tl) (htl : tl.length = zs.length)
    (hi : ∀ p ∈ zs, ItI s.heap k p.1 ∧ ∃ xs, SqC s.heap p.1 xs ∧ xs[k]? = some p.2)
    (hQ : ∀ h', IsZip h' z TI TO (rawInt s.heap.objs.size) → (∀ p ∈ zs, ItI h' (k + 1) p.1) → TupAt h' s.heap.objs.size (zs.map (·.2)) → h'.objs.size = s.heap.objs.size + 1 →
      (∀ c o, c ∉ z :: TO :: (zs.map (·.1)).map (·.it) → s.heap.get? c = some o → h'.get? c = some o) → TupAt h' TO (zs.map (·.2)) → Q (.ref s.heap.objs.size) { s with heap := h' }) :
    wpAny (model prog w) A (Builtin.«zip.__next__» ⟨[.ref z], []⟩) (fun fin s' => ∃ v, fin = .done (.ret v) ∧ Q v s') E s := by
  show wpAny _ _ (field (.ref z) 2 >>= _) _ _ _
  refine wpAny_bind (wpAny_field hz rfl (x := .bool false) rfl ?_)
  show wpAny _ _ (field (.ref z) 3 >>= _) _ _ _
  refine wpAny_bind (wpAny_field hz rfl (x := .ref TI) rfl ?_)
  refine wpAny_bind (wpAny_seqItems hTI rfl ?_)
  have he : (zs.map fun p => Value.ref p.1.it).toArray.isEmpty = false := by
    cases zs with
    | nil => exact absurd rfl hn
    | cons => rfl
  simp only [he, Bool.false_eq_true, if_false]
  refine wpAny_bind ?_
  unfold Builtin.SmallTypes.ownedTupleIsFree
  refine wpAny_bind (wpAny_field hz rfl (x := .none) rfl (wpAny_pure ?_))
  simp only [if_true]
  refine wpAny_bind (wpAny_rule ?_)
  refine wpAny_bind (wpAny_field hz rfl (x := .ref TO) rfl ?_)
  refine wpAny_bind (wpAny_setField_rec hz (by simp) fun h₁ hz₁ hs₁ => ?_)
  replace hz₁ : IsZip h₁ z TI TO .ellipsis := hz₁
  refine wpAny_bind ?_
  have nd := D.nd
  simp only [List.nodup_cons, List.mem_cons, not_or] at nd
  obtain ⟨⟨zTO, zi⟩, TOi, nd⟩ := nd
  have lz : ∀ p ∈ zs, p.1.l ≠ z ∧ p.1.l ≠ TO ∧ p.1.l ∉ (zs.map (·.1)).map (·.it) := fun p hp => by
    have := D.ls p.1 (List.mem_map_of_mem hp)
    simp only [List.mem_cons, not_or] at this
    exact ⟨this.1, this.2.1, this.2.2⟩
  have iz : ∀ p ∈ zs, p.1.it ≠ z ∧ p.1.it ≠ TO := fun p hp => by
    have hm : p.1.it ∈ (zs.map (·.1)).map (·.it) := List.mem_map_of_mem (List.mem_map_of_mem hp)
    exact ⟨fun e => zi (e ▸ hm), fun e => TOi (e ▸ hm)⟩
  refine forIn_go (fun rest (b : Option Fin × Unit) s' => b = (none, ()) ∧ ∃ dn td h', zs = dn ++ td ∧ rest = (td.map fun p => Value.ref p.1.it).zipIdx dn.length ∧ s' = { s with heap := h' } ∧ IsZip h' z TI TO .ellipsis ∧
    (∃ tl, TupAt h' TO (dn.map (·.2) ++ tl) ∧ tl.length = td.length) ∧ (∀ p ∈ dn, ItI h' (k + 1) p.1) ∧ (∀ p ∈ td, ItI h' k p.1 ∧ ∃ xs, SqC h' p.1 xs ∧ xs[k]? = some p.2) ∧ h'.objs.size = s.heap.objs.size ∧
    ∀ c o, c ∉ z :: TO :: (zs.map (·.1)).map (·.it) → s.heap.get? c = some o → h'.get? c = some o) ?_ _ _ _ ?_ ?_
  · rintro ⟨av, an⟩ rest b s' ⟨rfl, dn, td, h', e1, e2, rfl, hz', ⟨tl, ht, hl⟩, hd, hu, hs', hk⟩
    cases td with
    | nil => cases e2
    | cons p td =>
      rw [List.map_cons, List.zipIdx_cons] at e2
      simp only [List.cons.injEq, Prod.mk.injEq] at e2
      obtain ⟨⟨rfl, rfl⟩, rfl⟩ := e2
      have hp : p ∈ zs := by rw [e1]; simp
      have pd : ∀ q ∈ dn ++ td, q.1.it ≠ p.1.it := by
        have nd2 := nd
        rw [e1] at nd2
        simp only [List.map_append, List.map_cons] at nd2
        have := List.nodup_append.mp nd2
        intro q hq
        rcases List.mem_append.mp hq with h | h
        · exact this.2.2 _ (List.mem_map_of_mem (List.mem_map_of_mem h)) _ (List.mem_cons_self ..)
        · have := (List.nodup_cons.mp this.2.1).1
          exact fun e => this (e ▸ List.mem_map_of_mem (List.mem_map_of_mem h))
      have sub : ∀ q ∈ dn ++ td, q ∈ zs := fun q hq => by
        rw [e1]
        rcases List.mem_append.mp hq with h | h
        · exact List.mem_append_left _ h
        · exact List.mem_append_right _ (List.mem_cons_of_mem _ h)
      obtain ⟨i0, xs, c0, x0⟩ := hu p (List.mem_cons_self ..)
      refine wpAny_bind (wpAny_onRaise ?_)
      show wpAny _ _ (Builtin.SmallTypes.nextOf (.ref p.1.it) >>= _) _ _ _
      refine wpAny_bind (next_item i0 c0 x0 fun h₂ i2 hs₂ => wpAny_pure ?_)
      have ht2 : TupAt h₂ TO (dn.map (·.2) ++ tl) := hs₂.extBut _ _ (Ne.symm (iz p hp).2) ht
      refine wpAny_bind (wpAny_seqItems ht2 rfl ?_)
      have hle : (dn.map (·.2) ++ tl).length ≤ sizeLine := by
        have := congrArg List.length e1
        simp only [List.length_append, List.length_cons, List.length_map] at this hl ⊢
        omega
      refine wpAny_bind (wpAny_updateSeq (hz := by rw [List.size_toArray]; exact hle) (_hz' := by rw [Array.size_setIfInBounds, List.size_toArray]; omega) ht2 rfl ?_)
      have hs3 : Heap.SameBut TO h₂ (h₂.update TO (Obj.mapSeq fun x_2 => x_2.setIfInBounds dn.length p.2)) := Heap.SameBut.update ..
      have ht3 : TupAt (h₂.update TO (Obj.mapSeq fun x_2 => x_2.setIfInBounds dn.length p.2)) TO ((dn ++ [p]).map (·.2) ++ tl.tail) := by
        have q := Heap.get?_update_self (Obj.mapSeq fun x_2 => x_2.setIfInBounds dn.length p.2) ht2 rfl
        refine q.trans ?_
        cases tl with
        | nil => simp at hl
        | cons t tl => simp [Obj.mapSeq]
      refine wpAny_bind (wpAny_letGo (wpAny_pure ⟨_, rfl, rfl, dn ++ [p], td, _, by rw [e1]; simp, by simp, rfl, ?_, ⟨tl.tail, ht3, by simp at hl ⊢; omega⟩, ?_, ?_, ?_, ?_⟩))
      · exact hs3.extBut _ _ zTO (hs₂.extBut _ _ (Ne.symm (iz p hp).1) hz')
      · intro q hq
        rcases List.mem_append.mp hq with h | h
        · exact (hd q h).at fun o e => hs3.extBut _ _ (iz q (sub q (List.mem_append_left _ h))).2 (hs₂.extBut _ _ (pd q (List.mem_append_left _ h)) e)
        · rw [List.mem_singleton] at h
          subst h
          exact i2.at fun o e => hs3.extBut _ _ (iz q hp).2 e
      · intro q hq
        obtain ⟨a1, xs', a2, a3⟩ := hu q (List.mem_cons_of_mem _ hq)
        have hm := sub q (List.mem_append_right _ hq)
        refine ⟨a1.at fun o e => hs3.extBut _ _ (iz q hm).2 (hs₂.extBut _ _ (pd q (List.mem_append_right _ hq)) e), xs', a2.at fun o e => hs3.extBut _ _ (lz q hm).2.1 (hs₂.extBut _ _ (fun e => (lz q hm).2.2 (e ▸ List.mem_map_of_mem (List.mem_map_of_mem hp))) e), a3⟩
      · rw [hs3.1, hs₂.1]; exact hs'
      · intro c o hc e
        have hc2 := hc
        simp only [List.mem_cons, not_or] at hc2
        exact hs3.extBut _ _ hc2.2.1 (hs₂.extBut _ _ (fun e => hc2.2.2 (e ▸ List.mem_map_of_mem (List.mem_map_of_mem hp))) (hk c o hc e))
  · exact ⟨rfl, [], zs, h₁, rfl, rfl, rfl, hz₁, ⟨tl, hs₁.extBut _ _ (Ne.symm zTO) hTO, htl⟩, fun p hp => absurd hp (List.not_mem_nil), fun p hp => ⟨(hi p hp).1.at fun o e => hs₁.extBut _ _ (iz p hp).1 e, let ⟨xs, a, b⟩ := (hi p hp).2; ⟨xs, a.at fun o e => hs₁.extBut _ _ (lz p hp).1 e, b⟩⟩, hs₁.1, fun c o hc e => hs₁.extBut _ _ (fun z => hc (by rw [z]; exact List.mem_cons_self ..)) e⟩
  · rintro b s' ⟨rfl, dn, td, h₅, e1, e2, rfl, hz₅, ⟨tl', ht, hl⟩, hd, hu, hsz, hk⟩
    have : td = [] := by
      cases td with
      | nil => rfl
      | cons => rw [List.map_cons, List.zipIdx_cons] at e2; cases e2
    subst this
    have : tl' = [] := List.eq_nil_of_length_eq_zero hl
    subst this
    rw [List.append_nil] at e1 ht
    subst e1
    refine wpAny_bind (wpAny_seqItems ht rfl ?_)
    refine wpAny_bind (wpAny_newTuple ?_)
    have hzlt : z < h₅.objs.size := Heap.lt_size hz₅
    refine wpAny_bind ?_
    unfold Builtin.SmallTypes.ownedTupleHandOut
    have hz₆ : IsZip (h₅.push { cls := .type "tuple", data := .seq (zs.map (·.2)).toArray }) z TI TO .ellipsis := Heap.get?_push_of_some _ hz₅
    refine wpAny_bind (wpAny_setField_rec hz₆ (by simp) fun h₇ hz₇ hs₇ => ?_)
    replace hz₇ : IsZip h₇ z TI TO (rawInt h₅.objs.size) := hz₇
    refine wpAny_setField_rec hz₇ (by simp) fun h₈ hz₈ hs₈ => ?_
    replace hz₈ : IsZip h₈ z TI TO (rawInt h₅.objs.size) := hz₈
    have up : ∀ c o, c ≠ z → h₅.get? c = some o → h₈.get? c = some o := fun c o c1 e => hs₈.extBut _ _ c1 (hs₇.extBut _ _ c1 (Heap.get?_push_of_some _ e))
    have hT₈ : TupAt h₈ h₅.objs.size (zs.map (·.2)) := hs₈.extBut _ _ (Nat.ne_of_gt hzlt) (hs₇.extBut _ _ (Nat.ne_of_gt hzlt) (Heap.get?_push_size _ rfl))
    have hz8 : h₈.objs.size = h₅.objs.size + 1 := by rw [hs₈.1, hs₇.1, Heap.size_push]
    rw [hsz] at hz₈ hT₈ hz8
    refine wpAny_pure ⟨_, rfl, ?_⟩
    show Q (.ref h₅.objs.size) _
    rw [hsz]
    exact hQ h₈ hz₈ (fun p hp => (hd p hp).at fun o e => up _ o (iz p hp).1 e) hT₈ hz8 (fun c o hc e => up c o (fun z => hc (by rw [z]; exact List.mem_cons_self ..)) (hk c o hc e)) (up _ _ (Ne.symm zTO) ht)
theorem step_held {z TI TO T : Addr} {f : Bool} {oT : Obj} {k : Nat} {zs : List (Zi × Value)} {Q : Value → Shared → Prop} (D : Apart z TI TO (zs.map (·.1))) (hn : zs ≠ []) (hzl : zs.length ≤ sizeLine)
    (hz : IsZipHeld s.heap z TI TO T f) (hT : s.heap.get? T = some oT) (hTI : TupAt s.heap TI (zs.map fun p => .ref p.1.it))
    (hi : ∀ p ∈ zs, ItI s.heap k p.1 ∧ ∃ xs, SqC s.heap p.1 xs ∧ xs[k]? = some p.2)
    (hQ : ∀ h', IsZipHeld h' z TI TO T true → (∀ p ∈ zs, ItI h' (k + 1) p.1) → TupAt h' s.heap.objs.size (zs.map (·.2)) → h'.objs.size = s.heap.objs.size + 1 →
      (∀ c o, c ∉ z :: (zs.map (·.1)).map (·.it) → s.heap.get? c = some o → h'.get? c = some o) → Q (.ref s.heap.objs.size) { s with heap := h' }) :
    wpAny (model prog w) A (Builtin.«zip.__next__» ⟨[.ref z], []⟩) (fun fin s' => ∃ v, fin = .done (.ret v) ∧ Q v s') E s := by
  show wpAny _ _ (field (.ref z) 2 >>= _) _ _ _
  refine wpAny_bind (wpAny_field hz rfl (x := .bool false) rfl ?_)
  show wpAny _ _ (field (.ref z) 3 >>= _) _ _ _
  refine wpAny_bind (wpAny_field hz rfl (x := .ref TI) rfl ?_)
  refine wpAny_bind (wpAny_seqItems hTI rfl ?_)
  have he : (zs.map fun p => Value.ref p.1.it).toArray.isEmpty = false := by
    cases zs with
    | nil => exact absurd rfl hn
    | cons => rfl
  simp only [he, Bool.false_eq_true, if_false]
  refine wpAny_bind (wpAny_tupleHeld_zip hz hT fun h₁ hz₁ hs₁ => ?_)
  simp only [Bool.false_eq_true, if_false]
  refine wpAny_bind ?_
  rw [← Array.forIn_toList]
  have nd := D.nd
  simp only [List.nodup_cons, List.mem_cons, not_or] at nd
  obtain ⟨⟨zTO, zi⟩, TOi, nd⟩ := nd
  have lz : ∀ p ∈ zs, p.1.l ≠ z ∧ p.1.l ≠ TO ∧ p.1.l ∉ (zs.map (·.1)).map (·.it) := fun p hp => by
    have := D.ls p.1 (List.mem_map_of_mem hp)
    simp only [List.mem_cons, not_or] at this
    exact ⟨this.1, this.2.1, this.2.2⟩
  have iz : ∀ p ∈ zs, p.1.it ≠ z ∧ p.1.it ≠ TO := fun p hp => by
    have hm : p.1.it ∈ (zs.map (·.1)).map (·.it) := List.mem_map_of_mem (List.mem_map_of_mem hp)
    exact ⟨fun e => zi (e ▸ hm), fun e => TOi (e ▸ hm)⟩
  refine forIn_go (fun rest (b : Option Fin × Array Value) s' => ∃ dn td h', b = (none, (dn.map (·.2)).toArray) ∧ zs = dn ++ td ∧ rest = (td.map fun p => Value.ref p.1.it) ∧ s' = { s with heap := h' } ∧ IsZipHeld h' z TI TO T true ∧
    (∀ p ∈ dn, ItI h' (k + 1) p.1) ∧ (∀ p ∈ td, ItI h' k p.1 ∧ ∃ xs, SqC h' p.1 xs ∧ xs[k]? = some p.2) ∧ h'.objs.size = s.heap.objs.size ∧
    ∀ c o, c ∉ z :: (zs.map (·.1)).map (·.it) → s.heap.get? c = some o → h'.get? c = some o) ?_ _ _ _ ?_ ?_
  · rintro av rest b s' ⟨dn, td, h', rfl, e1, e2, rfl, hz', hd, hu, hs', hk⟩
    cases td with
    | nil => cases e2
    | cons p td =>
      rw [List.map_cons] at e2
      simp only [List.cons.injEq] at e2
      obtain ⟨rfl, rfl⟩ := e2
      have hp : p ∈ zs := by rw [e1]; simp
      have pd : ∀ q ∈ dn ++ td, q.1.it ≠ p.1.it := by
        have nd2 := nd
        rw [e1] at nd2
        simp only [List.map_append, List.map_cons] at nd2
        have := List.nodup_append.mp nd2
        intro q hq
        rcases List.mem_append.mp hq with h | h
        · exact this.2.2 _ (List.mem_map_of_mem (List.mem_map_of_mem h)) _ (List.mem_cons_self ..)
        · have := (List.nodup_cons.mp this.2.1).1
          exact fun e => this (e ▸ List.mem_map_of_mem (List.mem_map_of_mem h))
      have sub : ∀ q ∈ dn ++ td, q ∈ zs := fun q hq => by
        rw [e1]
        rcases List.mem_append.mp hq with h | h
        · exact List.mem_append_left _ h
        · exact List.mem_append_right _ (List.mem_cons_of_mem _ h)
      obtain ⟨i0, xs, c0, x0⟩ := hu p (List.mem_cons_self ..)
      refine wpAny_bind (wpAny_holding ?_)
      show wpAny _ _ (Builtin.SmallTypes.nextOf (.ref p.1.it) >>= _) _ _ _
      refine wpAny_bind (next_item i0 c0 x0 fun h₂ i2 hs₂ => wpAny_pure ?_)
      refine wpAny_pure ⟨_, rfl, dn ++ [p], td, _, by simp, by rw [e1]; simp, rfl, rfl, ?_, ?_, ?_, ?_, ?_⟩
      · exact hs₂.extBut _ _ (Ne.symm (iz p hp).1) hz'
      · intro q hq
        rcases List.mem_append.mp hq with h | h
        · exact (hd q h).at fun o e => hs₂.extBut _ _ (pd q (List.mem_append_left _ h)) e
        · rw [List.mem_singleton] at h
          subst h
          exact i2
      · intro q hq
        obtain ⟨a1, xs', a2, a3⟩ := hu q (List.mem_cons_of_mem _ hq)
        have hm := sub q (List.mem_append_right _ hq)
        refine ⟨a1.at fun o e => hs₂.extBut _ _ (pd q (List.mem_append_right _ hq)) e, xs', a2.at fun o e => hs₂.extBut _ _ (fun e => (lz q hm).2.2 (e ▸ List.mem_map_of_mem (List.mem_map_of_mem hp))) e, a3⟩
      · rw [hs₂.1]; exact hs'
      · intro c o hc e
        have hc2 := hc
        simp only [List.mem_cons, not_or] at hc2
        exact hs₂.extBut _ _ (fun e => hc2.2 (e ▸ List.mem_map_of_mem (List.mem_map_of_mem hp))) (hk c o hc e)
  · exact ⟨[], zs, h₁, rfl, rfl, rfl, rfl, hz₁, fun p hp => absurd hp (List.not_mem_nil), fun p hp => ⟨(hi p hp).1.at fun o e => hs₁.extBut _ _ (iz p hp).1 e, let ⟨xs, a, b⟩ := (hi p hp).2; ⟨xs, a.at fun o e => hs₁.extBut _ _ (lz p hp).1 e, b⟩⟩, hs₁.1, fun c o hc e => hs₁.extBut _ _ (fun z => hc (by rw [z]; exact List.mem_cons_self ..)) e⟩
  · rintro b s' ⟨dn, td, h₅, rfl, e1, e2, rfl, hz₅, hd, hu, hsz, hk⟩
    have : td = [] := by
      cases td with
      | nil => rfl
      | cons => rw [List.map_cons] at e2; cases e2
    subst this
    rw [List.append_nil] at e1
    subst e1
    refine wpAny_bind (wpAny_newTuple (hsz := by simpa using hzl) ?_)
    have hT₈ : TupAt (h₅.push { cls := .type "tuple", data := .seq (zs.map (·.2)).toArray }) h₅.objs.size (zs.map (·.2)) := Heap.get?_push_size _ rfl
    have hz8 : (h₅.push { cls := .type "tuple", data := .seq (zs.map (·.2)).toArray }).objs.size = h₅.objs.size + 1 := Heap.size_push ..
    refine wpAny_pure ⟨_, rfl, ?_⟩
    show Q (.ref h₅.objs.size) _
    rw [hsz] at hT₈ hz8 ⊢
    exact hQ _ (Heap.get?_push_of_some _ hz₅) (fun p hp => (hd p hp).at fun o e => Heap.get?_push_of_some _ e) hT₈ hz8 fun c o hc e => Heap.get?_push_of_some _ (hk c o hc e)
theorem end_any {z TI TO : Addr} {f0 : Value} {f1 : Bool} {k : Nat} {p : Zi} {zs : List Zi} {xs : Array Value} {Q : Fin → Shared → Prop} (hh : A.handled = none) (D : Apart z TI TO (p :: zs))
    (hz : IsZip s.heap z TI TO .none ∨ ∃ T f oT, IsZipHeld s.heap z TI TO T f ∧ s.heap.get? T = some oT) (hTI : TupAt s.heap TI ((p :: zs).map fun p => .ref p.it))
    (hi : ItI s.heap k p) (hl : SqC s.heap p xs) (hx : xs[k]? = none)
    (hE : ∀ h' e, (∀ c o, c ∉ z :: TO :: (p :: zs).map (·.it) → s.heap.get? c = some o → h'.get? c = some o) → (∃ o, h'.get? e = some o ∧ o.cls = .type "StopIteration") → E (.ref e) { s with heap := h' }) :
    wpAny (model prog w) A (Builtin.«zip.__next__» ⟨[.ref z], []⟩) Q E s := by
  have iz : p.it ≠ z := fun e => by
    have := D.nd
    rw [List.nodup_cons] at this
    exact this.1 (by rw [← e]; simp)
  have lz : p.l ≠ z := fun e => D.ls p (List.mem_cons_self ..) (by rw [e]; exact List.mem_cons_self ..)
  have he : ((p :: zs).map fun p => Value.ref p.it).toArray.isEmpty = false := rfl
  rcases hz with hz | ⟨T, f, oT, hz, hT⟩
  · show wpAny _ _ (field (.ref z) 2 >>= _) _ _ _
    refine wpAny_bind (wpAny_field hz rfl (x := .bool false) rfl ?_)
    show wpAny _ _ (field (.ref z) 3 >>= _) _ _ _
    refine wpAny_bind (wpAny_field hz rfl (x := .ref TI) rfl ?_)
    refine wpAny_bind (wpAny_seqItems hTI rfl ?_)
    simp only [he, Bool.false_eq_true, if_false]
    refine wpAny_bind ?_
    unfold Builtin.SmallTypes.ownedTupleIsFree
    refine wpAny_bind (wpAny_field hz rfl (x := .none) rfl (wpAny_pure ?_))
    simp only [if_true]
    refine wpAny_bind (wpAny_rule ?_)
    refine wpAny_bind (wpAny_field hz rfl (x := .ref TO) rfl ?_)
    refine wpAny_bind (wpAny_setField_rec hz (by simp) fun h₁ hz₁ hs₁ => ?_)
    replace hz₁ : IsZip h₁ z TI TO .ellipsis := hz₁
    refine wpAny_bind ?_
    simp only [List.map_cons, List.zipIdx_cons, List.forIn_cons]
    refine wpAny_bind (wpAny_bind (wpAny_onRaise ?_))
    show wpAny _ _ (Builtin.SmallTypes.nextOf (.ref p.it) >>= _) _ _ _
    refine wpAny_bind (next_end hh (hi.at fun o e => hs₁.extBut _ _ iz e) (hl.at fun o e => hs₁.extBut _ _ lz e) hx fun h₂ e hs₂ he => ?_)
    obtain ⟨oe, hoe, hce⟩ := he
    have hz₂ : IsZip h₂ z TI TO .ellipsis := hs₂ _ _ (Ne.symm iz) hz₁
    have hez : e ≠ z := fun x => by subst x; rw [hz₂] at hoe; cases hoe; simp at hce
    refine wpAny_setField_rec hz₂ (by simp) fun h₃ _ hs₃ => hE h₃ e (fun c o hc x => ?_) ⟨oe, hs₃.extBut _ _ hez hoe, hce⟩
    simp only [List.map_cons, List.mem_cons, not_or] at hc
    exact hs₃.extBut _ _ hc.1 (hs₂ _ _ hc.2.2.1 (hs₁.extBut _ _ hc.1 x))
  · show wpAny _ _ (field (.ref z) 2 >>= _) _ _ _
    refine wpAny_bind (wpAny_field hz rfl (x := .bool false) rfl ?_)
    show wpAny _ _ (field (.ref z) 3 >>= _) _ _ _
    refine wpAny_bind (wpAny_field hz rfl (x := .ref TI) rfl ?_)
    refine wpAny_bind (wpAny_seqItems hTI rfl ?_)
    simp only [he, Bool.false_eq_true, if_false]
    refine wpAny_bind (wpAny_tupleHeld_zip hz hT fun h₁ hz₁ hs₁ => ?_)
    simp only [Bool.false_eq_true, if_false]
    refine wpAny_bind ?_
    rw [← Array.forIn_toList]
    simp only [List.map_cons, List.forIn_cons]
    refine wpAny_bind (wpAny_bind (wpAny_holding ?_))
    show wpAny _ _ (Builtin.SmallTypes.nextOf (.ref p.it) >>= _) _ _ _
    refine wpAny_bind (next_end hh (hi.at fun o e => hs₁.extBut _ _ iz e) (hl.at fun o e => hs₁.extBut _ _ lz e) hx fun h₂ e hs₂ he => ?_)
    refine hE h₂ e (fun c o hc x => ?_) he
    simp only [List.map_cons, List.mem_cons, not_or] at hc
    exact hs₂ _ _ hc.2.2.1 (hs₁.extBut _ _ hc.1 x)
/-- the zip at its k-th turn -/
def St (h : Heap) (z TI TO : Addr) (zs : List Zi) (k : Nat) : Prop := TupAt h TI (zs.map fun p => .ref p.it) ∧ (∀ p ∈ zs, ItI h k p) ∧
  ((IsZip h z TI TO .none ∧ ∃ tl : List Value, TupAt h TO tl ∧ tl.length = zs.length) ∨ ∃ T f oT, IsZipHeld h z TI TO T f ∧ h.get? T = some oT ∧ T ∉ z :: TO :: zs.map (·.it))
theorem pyNext_item {z TI TO : Addr} {k : Nat} {zs : List Zi} {ys : List Value} {Q : Option Value → Shared → Prop} (D : Apart z TI TO zs) (hn : zs ≠ []) (hzl : zs.length ≤ sizeLine)
    (st : St s.heap z TI TO zs k) (hl : ys.length = zs.length) (hi : ∀ q ∈ zs.zip ys, ∃ xs, SqC s.heap q.1 xs ∧ xs[k]? = some q.2)
    (hQ : ∀ h', St h' z TI TO zs (k + 1) → TupAt h' s.heap.objs.size ys → h'.objs.size = s.heap.objs.size + 1 → (∀ c o, c ∉ z :: TO :: zs.map (·.it) → s.heap.get? c = some o → h'.get? c = some o) → Q (some (.ref s.heap.objs.size)) { s with heap := h' }) :
    wpAny (model prog w) A (pyNext (.ref z)) Q E s := by
  obtain ⟨hTI, hit, hz⟩ := st
  have m1 : (zs.zip ys).map (·.1) = zs := List.map_fst_zip (Nat.le_of_eq hl.symm)
  have m2 : (zs.zip ys).map (·.2) = ys := List.map_snd_zip (Nat.le_of_eq hl)
  have m3 : ((zs.zip ys).map fun p => Value.ref p.1.it) = zs.map fun p => .ref p.it := by
    rw [show (fun p : Zi × Value => Value.ref p.1.it) = (fun p : Zi => Value.ref p.it) ∘ Prod.fst from rfl, ← List.map_map, m1]
  have hn' : zs.zip ys ≠ [] := fun e => hn (by rw [← m1, e]; rfl)
  have hi' : ∀ p ∈ zs.zip ys, ItI s.heap k p.1 ∧ ∃ xs, SqC s.heap p.1 xs ∧ xs[k]? = some p.2 := fun p hp => ⟨hit _ (List.of_mem_zip hp).1, hi p hp⟩
  have hTI' : TupAt s.heap TI ((zs.zip ys).map fun p => .ref p.1.it) := by rw [m3]; exact hTI
  have D' : Apart z TI TO ((zs.zip ys).map (·.1)) := by rw [m1]; exact D
  have ty : s.TypeIs (.ref z) "zip" := by
    rcases hz with ⟨h, _⟩ | ⟨T, f, oT, h, _⟩
    · exact ⟨_, h, rfl⟩
    · exact ⟨_, h, rfl⟩
  have back : ∀ {h' : Heap}, (∀ p ∈ zs.zip ys, ItI h' (k + 1) p.1) → ∀ p ∈ zs, ItI h' (k + 1) p := fun h p hp => by
    rw [← m1] at hp
    obtain ⟨q, hq, rfl⟩ := List.mem_map.mp hp
    exact h q hq
  unfold pyNext
  refine wpAny_bind (wpAny_attempt (wpAny_callSpecial?_slot (name := Str.ofString "__next__") ty F.slot_zip_next (wpAny_call_entry F.slot_zip_next ty F.entry_zip_next ?_ (F.args_zip_next_1 _))))
  rcases hz with ⟨h, tl, hTO, htl⟩ | ⟨T, f, oT, h, hT, hTf⟩
  · refine step_free D' hn' (by rw [List.length_zip, hl, Nat.min_self]; exact hzl) h hTI' hTO (by rw [List.length_zip, hl, Nat.min_self]; exact htl) hi' fun h' a1 a2 a3 a4 a5 _ => wpAny_pure ?_
    rw [m1] at a5
    rw [m2] at a3
    refine hQ h' ⟨a5 _ _ D.ti hTI, back a2, .inr ⟨_, false, _, a1, a3, fun hm => ?_⟩⟩ a3 a4 a5
    have : ∀ c, (∃ o, s.heap.get? c = some o) → s.heap.objs.size ≠ c := fun c ⟨o, e⟩ => Nat.ne_of_gt (Heap.lt_size e)
    rcases List.mem_cons.mp hm with e | hm
    · exact this _ ⟨_, h⟩ e
    · rcases List.mem_cons.mp hm with e | hm
      · exact this _ ⟨_, hTO⟩ e
      · obtain ⟨p, hp, e⟩ := List.mem_map.mp hm
        have i := hit p hp
        unfold ItI at i
        refine this _ ?_ e.symm
        split at i
        · obtain ⟨o, q, _⟩ := i; exact ⟨o, q⟩
        · obtain ⟨o, q, _⟩ := i; exact ⟨o, q⟩
  · refine step_held D' hn' (by rw [List.length_zip, hl, Nat.min_self]; exact hzl) h hT hTI' hi' fun h' a1 a2 a3 a4 a5 => wpAny_pure ?_
    rw [m1] at a5
    rw [m2] at a3
    have a6 : ∀ c o, c ∉ z :: TO :: zs.map (·.it) → s.heap.get? c = some o → h'.get? c = some o := fun c o hc => a5 c o fun hm => hc (by
      rcases List.mem_cons.mp hm with e | hm
      · rw [e]; exact List.mem_cons_self ..
      · exact List.mem_cons_of_mem _ (List.mem_cons_of_mem _ hm))
    exact hQ h' ⟨a6 _ _ D.ti hTI, back a2, .inr ⟨T, true, oT, a1, a6 _ _ hTf hT, hTf⟩⟩ a3 a4 a6
theorem pyNext_end {z TI TO : Addr} {k : Nat} {p : Zi} {zs : List Zi} {xs : Array Value} {Q : Option Value → Shared → Prop} (hh : A.handled = none) (D : Apart z TI TO (p :: zs))
    (st : St s.heap z TI TO (p :: zs) k) (hl : SqC s.heap p xs) (hx : xs[k]? = none)
    (hQ : ∀ h', (∀ c o, c ∉ z :: TO :: (p :: zs).map (·.it) → s.heap.get? c = some o → h'.get? c = some o) → Q none { s with heap := h' }) :
    wpAny (model prog w) A (pyNext (.ref z)) Q E s := by
  obtain ⟨hTI, hit, hz⟩ := st
  have ty : s.TypeIs (.ref z) "zip" := by
    rcases hz with ⟨h, _⟩ | ⟨T, f, oT, h, _⟩
    · exact ⟨_, h, rfl⟩
    · exact ⟨_, h, rfl⟩
  unfold pyNext
  refine wpAny_bind (wpAny_attempt (wpAny_callSpecial?_slot (name := Str.ofString "__next__") ty F.slot_zip_next (wpAny_call_entry F.slot_zip_next ty F.entry_zip_next
    (end_any (f0 := .none) (f1 := false) hh D (hz.imp (fun h => h.1) fun ⟨T, f, oT, a, b, _⟩ => ⟨T, f, oT, a, b⟩) hTI (hit p (List.mem_cons_self ..)) hl hx fun h' e hk he => ?_) (F.args_zip_next_1 _))))
  obtain ⟨o, ho, hc⟩ := he
  refine wpAny_bind (wpAny_isInstance (T := "StopIteration") (b := true) ⟨o, ho, hc⟩ isSubtype_stop ?_)
  exact wpAny_pure (hQ _ hk)
end
end ZN

set_option maxHeartbeats 4000000
namespace ZN
open PySem PySem.Spec PyProof.Rows
/-- a list or a tuple stands there -/
def Sq0 (h : Heap) (l : Addr × Bool) : Prop := ∃ xs : Array Value, if l.2 then h.IsTuple l.1 xs else h.IsList l.1 xs
theorem Sq0.at {h h' : Heap} {l : Addr × Bool} (q : Sq0 h l) (e : ∀ o, h.get? l.1 = some o → h'.get? l.1 = some o) : Sq0 h' l := by
  obtain ⟨xs, q⟩ := q
  refine ⟨xs, ?_⟩
  cases c : l.2 <;> simp only [c, Bool.false_eq_true, if_true, if_false] at q ⊢
  · exact Heap.IsList.at q e
  · exact Heap.IsTuple.at q e
/-- what a new zip is like -/
def New (h : Heap) (base : Nat) (ls : List (Addr × Bool)) (zs : List Zi) : Prop := zs.map (fun p => (p.l, p.tp)) = ls ∧ zs.map (·.it) = List.range' base ls.length ∧ (∀ p ∈ zs, ItI h 0 p)
theorem meets_new (ls : List (Addr × Bool)) (hzl : ls.length ≤ sizeLine) :
    Meets (Builtin.«zip.__new__» ⟨.type "zip" :: ls.map fun p => .ref p.1, []⟩) (fun _ R s => (∀ l ∈ ls, Sq0 s.heap l) ∧
      ∀ h' zs, New h' s.heap.objs.size ls zs → TupAt h' (s.heap.objs.size + ls.length) (zs.map fun p => .ref p.it) → TupAt h' (s.heap.objs.size + ls.length + 1) (zs.map fun _ => .none) →
        IsZip h' (s.heap.objs.size + ls.length + 2) (s.heap.objs.size + ls.length) (s.heap.objs.size + ls.length + 1) .none → (∀ c o, s.heap.get? c = some o → h'.get? c = some o) →
        R (.ok (.ret (.ref (s.heap.objs.size + ls.length + 2)))) { s with heap := h' }) :=
  .of_wp fun prog w A R s h => by
    obtain ⟨hs, h⟩ := h
    have hsub := sub_zip
    unfold Builtin.«zip.__new__» Builtin.SmallTypes.iterAll
    wp_walk
    show wpAny _ _ (forIn (ls.map fun p => Value.ref p.1) (#[] : Array Value) fun x its => (holding its.toList (pyIter x) >>= fun v => pure (ForInStep.yield (its.push v)))) _ _ _
    refine forIn_go (fun rest (b : Array Value) s' => ∃ dn td h' zs, ls = dn ++ td ∧ rest = (td.map fun p => Value.ref p.1) ∧ s' = { s with heap := h' } ∧ b = (zs.map fun p : Zi => Value.ref p.it).toArray ∧ New h' s.heap.objs.size dn zs ∧
      h'.objs.size = s.heap.objs.size + dn.length ∧ ∀ c o, s.heap.get? c = some o → h'.get? c = some o) ?_ _ _ _ ?_ ?_
    · rintro av rest b s' ⟨dn, td, h', zs, e1, e2, rfl, rfl, ⟨n1, n2, n3⟩, hsz, hk⟩
      cases td with
      | nil => cases e2
      | cons p td =>
        rw [List.map_cons] at e2
        simp only [List.cons.injEq] at e2
        obtain ⟨rfl, rfl⟩ := e2
        obtain ⟨l, t⟩ := p
        have hp := (hs (l, t) (by rw [e1]; simp)).at fun o e => hk _ o e
        obtain ⟨xs, hp⟩ := hp
        have zl : zs.length = dn.length := by rw [← n1, List.length_map]
        refine wpAny_bind (wpAny_holding ?_)
        have fin : ∀ (o : Obj), ItI (h'.push o) 0 ⟨h'.objs.size, l, t⟩ → wpAny (model prog w) A.in1 (pure (ForInStep.yield ((zs.map fun p : Zi => Value.ref p.it).toArray.push (.ref h'.objs.size))) : Sem (ForInStep (Array Value)))
            (fun r s' => ∃ b', r = ForInStep.yield b' ∧ ∃ dn td' h' zs, ls = dn ++ td' ∧ (td.map fun p => Value.ref p.1) = (td'.map fun p => Value.ref p.1) ∧ s' = { s with heap := h' } ∧ b' = (zs.map fun p : Zi => Value.ref p.it).toArray ∧ New h' s.heap.objs.size dn zs ∧
              h'.objs.size = s.heap.objs.size + dn.length ∧ ∀ c o, s.heap.get? c = some o → h'.get? c = some o) (fun e s' => R (Except.error e) s') { s with heap := h'.push o } := fun o hi => by
          refine wpAny_pure ⟨_, rfl, dn ++ [(l, t)], td, _, zs ++ [⟨h'.objs.size, l, t⟩], by rw [e1]; simp, rfl, rfl, by simp, ⟨by simp [n1], ?_, ?_⟩, by rw [Heap.size_push, hsz]; simp; omega, fun c o e => Heap.get?_push_of_some _ (hk c o e)⟩
          · rw [List.map_append, n2, List.length_append, hsz]
            simp [List.range'_concat]
          · intro p hp
            rcases List.mem_append.mp hp with h | h
            · exact (n3 p h).at fun o e => Heap.get?_push_of_some _ e
            · rw [List.mem_singleton] at h; subst h; exact hi
        cases t with
        | true =>
          simp only [if_true] at hp
          refine wpAny_pyIter_tuple (s := { s with heap := h' }) hp (fin _ ?_)
          show Heap.IsTupleIter _ _ _ _
          exact ⟨_, Heap.get?_push_size _ rfl, rfl, rfl⟩
        | false =>
          simp only [Bool.false_eq_true, if_false] at hp
          refine wpAny_pyIter_list (s := { s with heap := h' }) hp (fin _ ?_)
          show Heap.IsListIter _ _ _ _
          exact ⟨_, Heap.get?_push_size _ rfl, rfl, rfl⟩
    · exact ⟨[], ls, s.heap, [], rfl, rfl, rfl, rfl, ⟨rfl, rfl, fun p hp => absurd hp (List.not_mem_nil)⟩, by simp, fun c o e => e⟩
    · rintro b s' ⟨dn, td, h', zs, e1, e2, rfl, rfl, ⟨n1, n2, n3⟩, hsz, hk⟩
      have : td = [] := by
        cases td with
        | nil => rfl
        | cons => rw [List.map_cons] at e2; cases e2
      subst this
      rw [List.append_nil] at e1
      subst e1
      have zl : zs.length = ls.length := by rw [← n1, List.length_map]
      refine wpAny_pure ?_
      refine wpAny_bind (wpAny_newTuple (hsz := by simp [zl]; exact hzl) ?_)
      refine wpAny_bind (wpAny_newTuple (hsz := by simp [zl]; exact hzl) ?_)
      unfold Builtin.SmallTypes.newRecord
      refine wpAny_bind (wpAny_newObj_type ?_ (by show (5 : Nat) ≤ sizeLine + 2; rw [sizeLine_eq]; decide))
      refine wpAny_pure ⟨_, rfl, ?_⟩
      have k1 : ∀ (o : Obj) c o', h'.get? c = some o' → (h'.push o).get? c = some o' := fun o c o' e => Heap.get?_push_of_some _ e
      show R (Except.ok (Flow.ret (Value.ref ((h'.push { cls := .type "tuple", data := .seq (List.map (fun p => Value.ref p.it) zs).toArray }).push { cls := .type "tuple", data := .seq (List.map (fun x => Value.none) (List.map (fun p : Zi => Value.ref p.it) zs).toArray.toList).toArray }).objs.size))) { s with heap := ((h'.push { cls := .type "tuple", data := .seq (List.map (fun p => Value.ref p.it) zs).toArray }).push { cls := .type "tuple", data := .seq (List.map (fun x => Value.none) (List.map (fun p : Zi => Value.ref p.it) zs).toArray.toList).toArray }).push { cls := .type "zip", data := .fields #[.none, .bool false, .bool false, .ref h'.objs.size, .ref (h'.push { cls := .type "tuple", data := .seq (List.map (fun p => Value.ref p.it) zs).toArray }).objs.size] } }
      have e2 : (List.map (fun x => Value.none) (List.map (fun p : Zi => Value.ref p.it) zs).toArray.toList) = zs.map fun _ => Value.none := by simp
      rw [e2]
      generalize ho1 : ({ cls := .type "tuple", data := .seq (zs.map fun p : Zi => Value.ref p.it).toArray } : Obj) = o1
      generalize ho2 : ({ cls := .type "tuple", data := .seq (zs.map fun _ : Zi => Value.none).toArray } : Obj) = o2
      have z1 : (h'.push o1).objs.size = s.heap.objs.size + ls.length + 1 := by rw [Heap.size_push, hsz]
      have z2 : ((h'.push o1).push o2).objs.size = s.heap.objs.size + ls.length + 2 := by rw [Heap.size_push, z1]
      rw [z1, z2, hsz]
      have g0 := Heap.get?_push_size h' (o := o1) (by rw [← ho1]; rfl)
      have g1 := Heap.get?_push_size (h'.push o1) (o := o2) (by rw [← ho2]; rfl)
      rw [hsz] at g0
      rw [z1] at g1
      refine h _ zs ⟨n1, n2, fun p hp => (n3 p hp).at fun o e => Heap.get?_push_of_some _ (Heap.get?_push_of_some _ (Heap.get?_push_of_some _ e))⟩ ?_ ?_ ?_ fun c o e => Heap.get?_push_of_some _ (Heap.get?_push_of_some _ (Heap.get?_push_of_some _ (hk c o e)))
      · rw [TupAt, ho1]; exact Heap.get?_push_of_some _ (Heap.get?_push_of_some _ g0)
      · rw [TupAt, ho2]; exact Heap.get?_push_of_some _ g1
      · have := Heap.get?_push_size ((h'.push o1).push o2) (o := { cls := .type "zip", data := .fields #[.none, .bool false, .bool false, .ref (s.heap.objs.size + ls.length), .ref (s.heap.objs.size + ls.length + 1)] }) rfl
        rw [z2] at this
        exact this
end ZN

set_option maxHeartbeats 4000000
namespace ZN
open PySem PySem.Spec PyProof.Rows L2
theorem zip_no_len : typeLookup (.type "zip") "__len__" = pure none := am_miss_of_fast (by decide +kernel)
theorem zip_no_hint : typeLookup (.type "zip") "__length_hint__" = pure none := am_miss_of_fast (by decide +kernel)
theorem num_nd (b n : Nat) : ((b + n + 2) :: (b + n + 1) :: List.range' b n).Nodup := by
  simp only [List.nodup_cons, List.mem_cons, List.mem_range'_1, not_or]
  exact ⟨⟨by omega, by omega⟩, by omega, List.nodup_range'⟩
theorem num_ti (b n : Nat) : (b + n) ∉ ((b + n + 2) :: (b + n + 1) :: List.range' b n) := by
  simp only [List.mem_cons, List.mem_range'_1, not_or]
  exact ⟨by omega, by omega, by omega⟩
theorem num_l (b n l : Nat) (h : l < b) : l ∉ ((b + n + 2) :: (b + n + 1) :: List.range' b n) := by
  simp only [List.mem_cons, List.mem_range'_1, not_or]
  exact ⟨by omega, by omega, by omega⟩
theorem num_in (b n c m : Nat) (h : b + n + 2 < m) (hc : c ∈ (b + n) :: ((b + n + 2) :: (b + n + 1) :: List.range' b n)) : b ≤ c ∧ c < m := by
  simp only [List.mem_cons, List.mem_range'_1] at hc
  rcases hc with h | h | h | h <;> exact ⟨by omega, by omega⟩
section
variable {prog : Program} {w : World} {A : Around} {E : Value → Shared → Prop} {s : Shared}
theorem call_zip {ls : List (Addr × Bool)} {Q : Value → Shared → Prop} (hn : ls ≠ []) (hzl : ls.length ≤ sizeLine) (hs : ∀ l ∈ ls, Sq0 s.heap l)
    (hQ : ∀ h' z TI TO zs, zs.map (fun p : Zi => (p.l, p.tp)) = ls → Apart z TI TO zs → ZN.St h' z TI TO zs 0 → IsZip h' z TI TO .none → (∀ c ∈ TI :: z :: TO :: zs.map (·.it), s.heap.objs.size ≤ c ∧ c < h'.objs.size) → (∀ c o, s.heap.get? c = some o → h'.get? c = some o) → Q (.ref z) { s with heap := h' }) :
    wpAny (model prog w) A (call (.type "zip") (ls.map fun p => .ref p.1)) Q E s := by
  have lt : ∀ l ∈ ls, l.1 < s.heap.objs.size := fun l hl => by
    obtain ⟨xs, q⟩ := hs l hl
    split at q
    · obtain ⟨o, e, _⟩ := q; exact Heap.lt_size e
    · obtain ⟨o, e, _⟩ := q; exact Heap.lt_size e
  refine callType_new F.called_zip (by decide) (typeCall _) (by
    cases ls with
    | nil => exact absurd rfl hn
    | cons a ls => exact newCall _ _) (fun obj => argsInit _ obj) F.entry_zip_new (meets_new ls hzl) ⟨hs, fun h' zs ⟨n1, n2, n3⟩ t1 t2 hz hk => ⟨⟨_, hz, rfl⟩, ?_⟩⟩
  have zl : zs.length = ls.length := by rw [← n1, List.length_map]
  refine hQ h' _ _ _ zs n1 ⟨?_, ?_, ?_⟩ ⟨t1, n3, .inl ⟨hz, _, t2, by simp⟩⟩ hz ?_ hk
  · rw [n2]
    exact num_nd _ _
  · rw [n2]
    exact num_ti _ _
  · intro p hp
    rw [n2]
    exact num_l _ _ _ (lt (p.l, p.tp) (by rw [← n1]; exact List.mem_map_of_mem hp))
  · intro c hc
    rw [n2] at hc
    exact num_in _ _ _ _ (Heap.lt_size hz) hc
end
/-- a list or tuple, as we know it -/
def SqN (K : PySem.W.Frag) (H : Hp) (l : Addr × Bool) (xs : List V) : Prop := if l.2 then SqT K H l.1 xs else SqL K H l.1 xs
def SqNs (K : PySem.W.Frag) (H : Hp) (n : Nat) : List (Addr × Bool) → List (List V) → Prop
  | [], [] => True
  | l :: ls, xs :: xss => SqN K H l xs ∧ xs.length = n ∧ SqNs K H n ls xss
  | _, _ => False
def col (i : Nat) (rows : List (List V)) : List V := rows.map fun xs => xs.getD i .non
section
variable {X : Cx} {pins : List (Addr × Obj)} {σ : L2.St} {H : Hp} {s : Shared}
theorem sqn_at {l : Addr × Bool} {xs : List V} (I : Inv X pins σ H s) (h : SqN X.K H l xs) : ∃ its : List Value, Vals xs its ∧ if l.2 then s.heap.IsTuple l.1 its.toArray else s.heap.IsList l.1 its.toArray := by
  unfold SqN at h
  cases c : l.2 <;> simp only [c, Bool.false_eq_true, if_true, if_false] at h ⊢
  · obtain ⟨its, r, p, _⟩ := I.list h
    exact ⟨its, r, p.isList⟩
  · obtain ⟨its, r, p, _⟩ := I.tuple h
    exact ⟨its, r, p⟩
theorem sqns_at {n : Nat} (I : Inv X pins σ H s) : ∀ {ls : List (Addr × Bool)} {rows : List (List V)}, SqNs X.K H n ls rows → ∀ l ∈ ls, Sq0 s.heap l
  | [], [], _, l, hl => absurd hl (List.not_mem_nil)
  | l0 :: ls, xs :: xss, ⟨h, _, h3⟩, l, hl => by
    rcases List.mem_cons.mp hl with rfl | hl
    · obtain ⟨its, _, q⟩ := sqn_at I h
      exact ⟨its.toArray, q⟩
    · exact sqns_at I h3 l hl
theorem sqns_items {n i : Nat} (I : Inv X pins σ H s) (hi : i < n) : ∀ {zs : List Zi} {rows : List (List V)}, SqNs X.K H n (zs.map fun p => (p.l, p.tp)) rows →
    ∃ ys, Vals (col i rows) ys ∧ ys.length = zs.length ∧ ∀ q ∈ zs.zip ys, ∃ xs, SqC s.heap q.1 xs ∧ xs[i]? = some q.2
  | [], [], _ => ⟨[], .nil, rfl, fun q hq => absurd hq (List.not_mem_nil)⟩
  | p :: zs, xs :: xss, ⟨h, hl, h3⟩ => by
    obtain ⟨ys, v, l, q⟩ := sqns_items I hi h3
    obtain ⟨its, r, c⟩ := sqn_at I h
    have hx : xs[i]? = some (xs.getD i .non) := by
      rw [List.getD_eq_getElem?_getD, List.getElem?_eq_getElem (by omega)]
      rfl
    obtain ⟨u, hu, ru⟩ := r.get hx
    refine ⟨u :: ys, .cons ru v, by simp [l], fun q' hq => ?_⟩
    rw [List.zip_cons_cons] at hq
    rcases List.mem_cons.mp hq with rfl | hq
    · exact ⟨its.toArray, c, by simpa using hu⟩
    · exact q q' hq
/-- the run of list(zip(..)) -/
structure Run (K : PySem.W.Frag) (q : Addr) (ls : List (Addr × Bool)) (n : Nat) (P : Nat → List V → Hp → Prop) (R : Hp → Prop) : Prop where
  at_ : ∀ i acc H, P i acc H → H q = some (.lst acc) ∧ ∃ rows, SqNs K H n ls rows ∧ (i < n → acc.length < sizeLine ∧ ∀ T, H T = none → P (i + 1) (acc ++ [.ref T]) (upd (upd H T (.tup (col i rows))) q (.lst (acc ++ [.ref T]))))
  fin : ∀ acc H, P n acc H → R H
theorem St.keep {h h' : Heap} {z TI TO q : Addr} {zs : List Zi} {k : Nat} (st : ZN.St h z TI TO zs k) (hq : q ∉ TI :: z :: TO :: zs.map (·.it)) (e : ∀ c o, c ≠ q → h.get? c = some o → h'.get? c = some o) (eq : ∃ o, h'.get? q = some o) : ZN.St h' z TI TO zs k := by
  simp only [List.mem_cons, not_or] at hq
  obtain ⟨q1, q2, q3, q4⟩ := hq
  have qi : ∀ p ∈ zs, p.it ≠ q := fun p hp e => q4 (e ▸ List.mem_map_of_mem hp)
  obtain ⟨a, b, c⟩ := st
  refine ⟨e _ _ (Ne.symm q1) a, fun p hp => (b p hp).at fun o x => e _ o (qi p hp) x, ?_⟩
  rcases c with ⟨c1, tl, c2, c3⟩ | ⟨T, f, oT, c1, c2, c3⟩
  · exact .inl ⟨e _ _ (Ne.symm q2) c1, tl, e _ _ (Ne.symm q3) c2, c3⟩
  · by_cases hT : T = q
    · subst hT
      obtain ⟨o, eq⟩ := eq
      exact .inr ⟨T, f, o, e _ _ (Ne.symm q2) c1, eq, c3⟩
    · exact .inr ⟨T, f, oT, e _ _ (Ne.symm q2) c1, e _ _ hT c2, c3⟩
theorem zip_loop {A1 : Around} {q z TI TO : Addr} {zs : List Zi} {ls : List (Addr × Bool)} {n : Nat} {P : Nat → List V → Hp → Prop} {R : Hp → Prop} {Rs : Result → Shared → Prop} (hh : A1.in1.handled = none)
    (hls : zs.map (fun p => (p.l, p.tp)) = ls) (hn : zs ≠ []) (hzl : zs.length ≤ sizeLine) (D : Apart z TI TO zs) (hr : Run X.K q ls n P R) (hf : ∀ b ∈ TI :: z :: TO :: zs.map (·.it), ∀ H', H' b = none → FpOk X pins H' b)
    {N : Nat} (hlt : ∀ b ∈ TI :: z :: TO :: zs.map (·.it), b < N) (hdone : ∀ H s, Inv X pins σ H s → R H → Rs (.ok (.ret .none)) s) :
    ∀ (m i : Nat) (acc : List V) (H : Hp) (s : Shared), i + m = n → Inv X pins σ H s → (∀ b ∈ TI :: z :: TO :: zs.map (·.it), H b = none) → ZN.St s.heap z TI TO zs i → N ≤ s.heap.objs.size → P i acc H → codeAny (model X.prog X.w) A1 (.builtin "list.extend.loop" ⟨[.ref q, .ref z, .none], []⟩) Rs s := by
  intro m
  have sub : ∀ b, b ∈ z :: TO :: zs.map (·.it) → b ∈ TI :: z :: TO :: zs.map (·.it) := fun b hb => List.mem_cons_of_mem _ hb
  induction m with
  | zero =>
    intro i acc H s hi I hb st hN hP
    have hin : i = n := by omega
    subst hin
    refine codeAny_builtin PySem.F.entry_extend_loop ?_
    rw [Around.under_plainId PySem.F.plain_extend_loop _]
    show wpAny _ A1.in1 (pyNext (.ref z) >>= _) _ _ s
    obtain ⟨_, rows, hs, _⟩ := hr.at_ _ _ _ hP
    cases zs with
    | nil => exact absurd rfl hn
    | cons p zs =>
      rw [← hls] at hs
      cases rows with
      | nil => exact hs.elim
      | cons xs rows =>
        obtain ⟨its, r, c⟩ := sqn_at I hs.1
        have hx : its.toArray[i]? = none := by
          have := r.length
          have h2 := hs.2.1
          simp only [List.getElem?_toArray]
          exact List.getElem?_eq_none (by omega)
        exact wpAny_bind (pyNext_end hh D st c hx fun h' hk => wpAny_pure (hdone H _ (I.turnedL (t' := s.toks) (ch := z :: TO :: (p :: zs).map (·.it)) hk fun b hb' => hf b (sub b hb') _ (hb b (sub b hb'))) (hr.fin _ _ hP)))
  | succ m ih =>
    intro i acc H s hi I hb st hN hP
    have hin : i < n := by omega
    refine codeAny_builtin PySem.F.entry_extend_loop ?_
    rw [Around.under_plainId PySem.F.plain_extend_loop _]
    show wpAny _ A1.in1 (pyNext (.ref z) >>= _) _ _ s
    obtain ⟨hq, rows, hs, hgo⟩ := hr.at_ _ _ _ hP
    obtain ⟨hlen, hgo⟩ := hgo hin
    rw [← hls] at hs
    obtain ⟨ys, v, l, qs⟩ := sqns_items I hin hs
    refine wpAny_bind (pyNext_item D hn hzl st l qs fun h' st' hT hsz hk => ?_)
    have fr : H s.heap.objs.size = none := I.hok.fresh (Nat.le_refl _)
    have new : ObjOk X.prog X.w (upd H s.heap.objs.size (.tup (col i rows))) h' s.heap.objs.size (.tup (col i rows)) :=
      ⟨by have := v.length; omega, ys, v, ⟨_, hT, rfl, _, rfl⟩⟩
    have I1 : Inv X pins σ (upd H s.heap.objs.size (.tup (col i rows))) { s with heap := h' } :=
      I.turnedNew (t' := s.toks) (ch := z :: TO :: zs.map (·.it)) hk (fun b hb' => hf b (sub b hb') _ (hb b (sub b hb'))) (Nat.le_refl _) new
    show wpAny _ A1.in1 (updateSeq q (·.push (.ref s.heap.objs.size)) >>= _) _ _ _
    have qT : q ≠ s.heap.objs.size := fun e => by rw [e, fr] at hq; cases hq
    have hq' : upd H s.heap.objs.size (.tup (col i rows)) q = some (.lst acc) := by rw [upd_ne qT]; exact hq
    obtain ⟨zz, its, k, r2, hl, e⟩ := I1.lstM hq'
    refine wpAny_bind (wpAny_updateSeq e rfl (wpAny_pure ⟨plainId_quiet PySem.F.plain_extend_loop _, ?_⟩) (by rw [List.size_toArray]; omega) (by show (its.toArray.push _).size ≤ sizeLine + 1; rw [Array.size_push, List.size_toArray]; omega))
    have qf : q ∉ TI :: z :: TO :: zs.map (·.it) := fun hm => by
      have := hb q hm
      rw [this] at hq; cases hq
    have tf : ∀ b ∈ TI :: z :: TO :: zs.map (·.it), b ≠ s.heap.objs.size := fun b hb' e => absurd (hlt b hb') (by rw [e]; exact Nat.not_lt.mpr hN)
    refine ih (i + 1) (acc ++ [.ref s.heap.objs.size]) _ _ (by omega) (I1.lset (its' := its ++ [.ref s.heap.objs.size]) (t' := s.toks) hq' e (by simp) (r2.append (show Vals [V.ref s.heap.objs.size] [Value.ref s.heap.objs.size] from .cons rfl .nil)) (by rw [List.length_append, List.length_singleton]; omega)) (fun b hb' => ?_) ?_ ?_ (hgo _ fr)
    · rw [upd_ne (show b ≠ q from fun e => qf (by rw [← e]; exact hb')), upd_ne (tf b hb')]
      exact hb b hb'
    · exact st'.keep qf (fun c o hc e => (Heap.get?_update_other _ _ (Ne.symm hc)).trans e) ⟨_, Heap.get?_update_self _ e rfl⟩
    · show N ≤ (h'.update q _).objs.size
      rw [Heap.size_update, hsz]
      omega
end
end ZN

set_option maxHeartbeats 4000000
namespace ZN
open PySem PySem.Spec PyProof.Rows L2
section
variable {X : Cx} {pins : List (Addr × Obj)} {σ : L2.St} {H : Hp} {s : Shared}
/-- what list(zip(..)) wants of the things zipped -/
def Want (K : PySem.W.Frag) (vs : List V) (H : Hp) (Q : VK) : Prop := ∃ ls rows n, vs = ls.map (fun l : Addr × Bool => V.ref l.1) ∧ ls ≠ [] ∧ ls.length ≤ sizeLine ∧ SqNs K H n ls rows ∧
  ∀ q, H q = none → ∃ P, P 0 [] (upd H q (.lst [])) ∧ Run K q ls n P fun H' => Q (.ref q) H'
theorem vals_refs : ∀ {ls : List (Addr × Bool)} {us : List Value}, Vals (ls.map fun l => V.ref l.1) us → us = ls.map fun l => Value.ref l.1
  | [], _, r => by cases r; rfl
  | l :: ls, _, r => by
    cases r with
    | cons h r =>
      rw [vals_refs r]
      cases h
      rfl
theorem list_of_zip {n : Nat} {z TI TO : Addr} {zs : List Zi} {ls : List (Addr × Bool)} {Q : VK} {N : Nat} (hc : X.calm = true) (hls : zs.map (fun p => (p.l, p.tp)) = ls) (hn : zs ≠ []) (hzl : zs.length ≤ sizeLine) (D : Apart z TI TO zs)
    (hf : ∀ b ∈ TI :: z :: TO :: zs.map (·.it), ∀ H', H' b = none → FpOk X pins H' b) (hlt : ∀ b ∈ TI :: z :: TO :: zs.map (·.it), b < N) (hN : N ≤ s.heap.objs.size)
    (I : Inv X pins σ H s) (hb : ∀ b ∈ TI :: z :: TO :: zs.map (·.it), H b = none) (st : ZN.St s.heap z TI TO zs 0) (hz : IsZip s.heap z TI TO .none)
    (hq : ∀ q, H q = none → ∃ P, P 0 [] (upd H q (.lst [])) ∧ Run X.K q ls n P fun H' => Q (.ref q) H') :
    wpAny (model X.prog X.w) X.A (call (.type "list") [.ref z]) (EP X pins σ Q) X.xe s := by
  refine callType_codes (Q₁ := fun obj s₁ => obj = .ref s.heap.objs.size ∧ s₁ = { s with heap := s.heap.push { cls := .type "list", data := .seq #[] } }) PySem.F.called_list (PySem.F.typeCall_list_1 _) PySem.F.entry_list_init
    (code_list_new _ ⟨rfl, rfl⟩) fun obj s₁ h₁ => ?_
  obtain ⟨rfl, rfl⟩ := h₁
  have hS : (s.heap.push { cls := .type "list", data := .seq #[] }).get? s.heap.objs.size = some { cls := .type "list", data := .seq #[] } := Heap.get?_push_size _ rfl
  refine ⟨⟨_, hS, rfl⟩, PySem.F.args_list_init_2 _ _, ?_⟩
  have fr : H s.heap.objs.size = none := I.hok.fresh (Nat.le_refl _)
  obtain ⟨P, hP, hrun⟩ := hq _ fr
  have I1 : Inv X pins σ (upd H s.heap.objs.size (.lst [])) { s with heap := s.heap.push { cls := .type "list", data := .seq #[] } } := I.lnew (its := []) (t' := s.toks) .nil (Nat.zero_le _)
  show wpAny _ _ (do let old ← Builtin.List.listItems (.ref s.heap.objs.size); Builtin.List.listUpdate (.ref s.heap.objs.size) (fun _ => #[]); letGo old.toList.reverse; Builtin.List.listExtendWith (.ref s.heap.objs.size) (.ref z) .none) _ _ _
  refine wpAny_bind ?_
  unfold Builtin.List.listItems
  refine wpAny_bind (wpAny_seqItems hS rfl (wpAny_pure ?_))
  show wpAny _ _ (updateSeq s.heap.objs.size (fun _ => #[]) >>= fun _ => letGo (#[] : Array Value).toList.reverse >>= fun _ => Builtin.List.listExtendWith (.ref s.heap.objs.size) (.ref z) .none) _ _ _
  refine wpAny_bind (wpAny_updateSeq hS rfl ?_)
  have I2 := I1.lset (f := fun _ => #[]) (its := []) (its' := []) (ys := []) (t' := s.toks) upd_same hS rfl .nil (Nat.zero_le _)
  rw [upd_upd] at I2
  refine wpAny_bind (wpAny_letGo ?_)
  have up : ∀ (h : Heap) (f : Obj → Obj), (∀ b o, s.heap.get? b = some o → h.get? b = some o) → ∀ b o, s.heap.get? b = some o → (h.update s.heap.objs.size f).get? b = some o := fun h f q b o e =>
    (Heap.get?_update_other _ _ (Ne.symm (Nat.ne_of_lt (Heap.lt_size e)))).trans (q b o e)
  have k1 : ∀ b o, s.heap.get? b = some o → (s.heap.push { cls := .type "list", data := .seq #[] }).get? b = some o := fun b o e => Heap.get?_push_of_some _ e
  have k2 := up _ (Obj.mapSeq (fun _ => (#[] : Array Value))) k1
  have hS2 := Heap.get?_update_self (Obj.mapSeq (fun _ => (#[] : Array Value))) hS rfl
  have hne : s.heap.objs.size ≠ z := Nat.ne_of_gt (Heap.lt_size hz)
  have zt : ∀ {h : Heap}, (∀ b o, s.heap.get? b = some o → h.get? b = some o) → ({ s with heap := h } : Shared).TypeIs (.ref z) "zip" := fun k => ⟨_, k _ _ hz, rfl⟩
  unfold Builtin.List.listExtendWith
  refine wpAny_bind (wpAny_typeOf (zt k2) ?_)
  have h1 : Builtin.List.listSameRef (.ref s.heap.objs.size) (.ref z) = false := by simp [Builtin.List.listSameRef, hne]
  have h2 : (Value.type "zip" == Value.type "list") = false := by decide
  have h3 : (Value.type "zip" == Value.type "tuple") = false := by decide
  simp only [h1, h2, h3, Bool.or_false, Bool.false_eq_true, if_false]
  refine wpAny_bind (wpAny_pyIter_zip (s := { s with heap := _ }) (k2 _ _ hz) ?_)
  refine wpAny_bind (wpAny_holding ?_)
  unfold Builtin.List.listLengthHint
  refine wpAny_bind (wpAny_specialOf (zt k2) zip_no_len ?_)
  show wpAny _ _ (specialOf (Value.ref z) (Str.ofString "__length_hint__") >>= _) _ _ _
  refine wpAny_bind (wpAny_specialOf (zt k2) zip_no_hint ?_)
  refine wpAny_pure ?_
  show wpAny _ _ (rule "list.extend.makes-room" >>= fun _ => Builtin.List.listTouch (.ref s.heap.objs.size) >>= fun _ =>
    again (.builtin "list.extend.loop" ⟨[.ref s.heap.objs.size, .ref z, .none], []⟩)) _ _ _
  refine wpAny_bind (wpAny_rule ?_)
  refine wpAny_bind ?_
  show wpAny _ _ (updateSeq s.heap.objs.size (·.push .none) >>= fun _ => updateSeq s.heap.objs.size (·.pop)) _ _ _
  refine wpAny_bind (wpAny_updateSeq hS2 rfl ?_)
  have I3 := I2.lset (f := (·.push Value.none)) (its := []) (its' := [Value.none]) (ys := [.non]) (t' := s.toks) upd_same hS2 (by simp) (.cons rfl .nil) (by rw [List.length_singleton, sizeLine_eq]; decide)
  have hS3 := Heap.get?_update_self (Obj.mapSeq (·.push Value.none)) hS2 rfl
  refine wpAny_updateSeq (hz := by seq_fits) hS3 rfl ?_
  have I4 := I3.lset (f := (·.pop)) (its := [Value.none]) (its' := []) (ys := []) (t' := s.toks) upd_same hS3 (by rfl) .nil (Nat.zero_le _)
  rw [upd_upd, upd_upd] at I4
  have k4 := up _ (Obj.mapSeq (·.pop)) (up _ (Obj.mapSeq (·.push Value.none)) k2)
  refine wpAny_pure ⟨plainId_quiet PySem.F.plain_extend_loop _, ?_⟩
  have sT : ∀ b ∈ TI :: z :: TO :: zs.map (·.it), b ≠ s.heap.objs.size := fun b hb' e => absurd (hlt b hb') (by rw [e]; exact Nat.not_lt.mpr hN)
  refine zip_loop (A1 := X.A.in1) (hh := I.ok.hd hc) hls hn hzl D hrun hf hlt (fun H' s' I' hR => ⟨rfl, .ref s.heap.objs.size, H', I', rfl, hR⟩) n 0 [] _ _ (by omega) I4 (fun b hb' => ?_) ?_ ?_ hP
  · rw [upd_ne (sT b hb')]; exact hb b hb'
  · refine ZN.St.keep (q := s.heap.objs.size) st (fun hm => sT _ hm rfl) (fun c o _ e => k4 c o e) ⟨_, Heap.get?_update_self _ hS3 rfl⟩
  · refine Nat.le_trans hN ?_
    show s.heap.objs.size ≤ (Heap.update _ _ _).objs.size
    rw [Heap.size_update, Heap.size_update, Heap.size_update, Heap.size_push]
    omega
/-- list(zip(us)) -/
theorem run_zip {E1 : Value → Shared → Prop} {vs : List V} {us : List Value} {Q : VK} {pos : Pos} (hc : X.calm = true) (I : Inv X pins σ H s) (r : Vals vs us) (h : Want X.K vs H Q) :
    wpAny (model X.prog X.w) X.A (call (.type "zip") us) (fun u s' => wpAny (model X.prog X.w) X.A (call (.type "list") [u]) (EP X pins σ Q) X.xe s') E1 s := by
  obtain ⟨ls, rows, n, rfl, hn, hl, hs, hq⟩ := h
  rw [vals_refs r]
  refine call_zip hn hl (sqns_at I hs) fun h' z TI TO zs hls D st hz hin hk => ?_
  have zl : zs.length = ls.length := by rw [← hls, List.length_map]
  have I2 : Inv X pins σ H { s with heap := h' } := I.kept (t' := s.toks) hk
  exact list_of_zip hc hls (fun e => hn (by rw [← hls, e]; rfl)) (by rw [zl]; exact hl) D (fun b hb H' hH' => I.fpOk (hin b hb).1 hH') (fun b hb => (hin b hb).2) (Nat.le_refl _) I2 (fun b hb => I.hok.fresh (hin b hb).1) st hz hq
def tLZ (K : PySem.W.Frag) (ta : TA) : TE := fun σ H Q => ta σ H fun vs H1 => Want K vs H1 Q
theorem pe_listzip {e : Expr} {es : List Expr} {ta : TA} {p p2 pos pos2 : Pos} (hc : X.calm = true) (hg : Gl X "list") (hm : X.mg "list" = none) (hg2 : Gl X "zip") (hm2 : X.mg "zip" = none) (ha : PA X (e :: es) ta)
    (he : starEach [.Call (.Name "zip" p2) (e :: es) [] pos2] X.env = (false, eval (.Call (.Name "zip" p2) (e :: es) [] pos2) X.env) :: starEach [] X.env := by rfl)
    (hs : starEach (e :: es) X.env = (false, eval e X.env) :: starEach es X.env := by rfl) (hpl : (backTo pos2 (starEach es X.env)).any (·.1) = false := by rfl) :
    PE X (.Call (.Name "list" p) [.Call (.Name "zip" p2) (e :: es) [] pos2] [] pos) (tLZ X.K ta) := by
  refine ⟨fun pins s σ H Q I h => ?_⟩
  refine wpAny_Call_Name_kw (ld_blt I hg hm PyProof.Rows.boot_list ?_)
  refine PyProof.Rows.callWith_type1 ?_ he rfl
  rw [he]
  show wpAny _ _ (spliced ((false, eval (.Call (.Name "zip" p2) (e :: es) [] pos2) X.env) :: backTo pos (starEach [] X.env))) _ _ s
  refine Calls.spliced_cons ?_
  refine wpAny_Call_Name_kw (ld_blt I hg2 hm2 PyProof.Rows.boot_zip ?_)
  refine PyProof.Rows.callWith_type1 (thn (ha.run pos2 pins s σ H _ I h) fun us s1 ⟨vs, H1, I1, r1, q1⟩ => ?_) hs hpl
  exact wpAny_mono (run_zip (pos := pos) hc I1 r1 q1) (fun u s' hu => Calls.spliced_nil hu) fun _ _ x => x
def tLZS (K : PySem.W.Frag) (te : TE) : TE := fun σ H Q => te σ H fun y H1 => ∃ a xs, y = V.ref a ∧ (SqT K H1 a xs ∨ SqL K H1 a xs) ∧ Want K xs H1 Q
theorem pe_listzipS {e : Expr} {te : TE} {p p2 pos pos2 sp_ : Pos} (hc : X.calm = true) (hg : Gl X "list") (hm : X.mg "list" = none) (hg2 : Gl X "zip") (hm2 : X.mg "zip" = none) (ha : PE X e te)
    (he : starEach [.Call (.Name "zip" p2) [.Starred e sp_] [] pos2] X.env = (false, eval (.Call (.Name "zip" p2) [.Starred e sp_] [] pos2) X.env) :: starEach [] X.env := by rfl)
    (hs : starEach [.Starred e sp_] X.env = [(true, eval e X.env)] := by rfl) :
    PE X (.Call (.Name "list" p) [.Call (.Name "zip" p2) [.Starred e sp_] [] pos2] [] pos) (tLZS X.K te) := by
  refine ⟨fun pins s σ H Q I h => ?_⟩
  refine wpAny_Call_Name_kw (ld_blt I hg hm PyProof.Rows.boot_list ?_)
  refine PyProof.Rows.callWith_type1 ?_ he rfl
  rw [he]
  show wpAny _ _ (spliced ((false, eval (.Call (.Name "zip" p2) [.Starred e sp_] [] pos2) X.env) :: backTo pos (starEach [] X.env))) _ _ s
  refine Calls.spliced_cons ?_
  refine wpAny_Call_Name_kw (ld_blt I hg2 hm2 PyProof.Rows.boot_zip ?_)
  rw [hs]
  refine PySem.W.ks_call (P := fun _ => True) rfl (fun h _ => ⟨.machine, .inr (.inl rfl), fun A Q E s _ q => wpAny_pure q⟩) (PySem.W.ks_lone (thn (ha.run pins s σ H _ I h) fun v s1 ⟨y, H1, I1, ry, a, xs, ey, hxs, q⟩ => ?_))
  subst ey
  obtain rfl : v = Value.ref a := ry
  refine StX.star_any I1 hxs fun us s2 I2 rv => ⟨trivial, ?_⟩
  exact wpAny_mono (run_zip (pos := pos) hc I2 rv q) (fun u s' hu => Calls.spliced_nil hu) fun _ _ x => x
end
end ZN

set_option maxHeartbeats 4000000
namespace DL
open PySem PySem.Spec PyProof.Rows L2
/-! ### list(zip(a, b, ..)), list(zip(*rows)) -/
@[simp] def rowD : D → Option (List D)
  | .lst ds => some ds
  | .tup ds => some ds
  | _ => none
@[simp] def rowsD : List D → Option (List (List D))
  | [] => some []
  | d :: ds => match rowD d with
    | some r => match rowsD ds with
      | some rs => some (r :: rs)
      | none => none
    | none => none
@[simp] def colD (i : Nat) (rs : List (List D)) : List D := rs.map fun r => r.getD i .non
def allLen (n : Nat) (rs : List (List D)) : Bool := rs.all fun r => r.length == n
@[simp] def gZipN (ds : List D) : Option T := match rowsD ds with
  | some (r :: rs) => if allLen r.length (r :: rs) = true ∧ r.length ≤ sizeLine ∧ (r :: rs).length ≤ sizeLine then some (.lst ((List.range r.length).map fun i => .fz (.tup (colD i (r :: rs))))) else none
  | _ => none
section
variable {Z : Wd} {F H : Hp}
def kindD : D → Bool
  | .tup _ => true
  | _ => false
def refA : V → Addr
  | .ref a => a
  | _ => 0
def lsOf : List V → List D → List (Addr × Bool)
  | v :: vs, d :: ds => (refA v, kindD d) :: lsOf vs ds
  | _, _ => []
theorem rps_own {vs : List V} {ds : List D} (h : Rps Z F vs ds) : OwnR Z F H (vs.zip (ds.map T.fz)) [] := by
  induction vs generalizing ds with
  | nil => cases ds <;> rfl
  | cons v vs ih =>
    cases ds with
    | nil => exact h.elim
    | cons d ds => exact ⟨[], [], ⟨h.1, rfl⟩, ih h.2, rfl⟩
theorem own_rps {vs : List V} {ds : List D} {fp : List Addr} (hl : vs.length = ds.length) (h : OwnR Z F H (vs.zip (ds.map T.fz)) fp) : Rps Z F vs ds ∧ fp = [] := by
  induction vs generalizing ds fp with
  | nil =>
    cases ds with
    | nil => exact ⟨trivial, h⟩
    | cons => cases hl
  | cons v vs ih =>
    cases ds with
    | nil => cases hl
    | cons d ds =>
      obtain ⟨f1, f2, o1, o2, rfl⟩ := h
      obtain ⟨a, b⟩ := ih (Nat.succ.inj hl) o2
      have : f1 = [] := o1.2
      subst this b
      exact ⟨⟨o1.1, a⟩, rfl⟩
theorem rps_len {vs : List V} {ds : List D} (h : Rps Z F vs ds) : vs.length = ds.length := h.length
/-- the rows as they stand -/
theorem rows_at {n : Nat} : ∀ {vs : List V} {ds : List D} {rs : List (List D)}, Rps Z F vs ds → rowsD ds = some rs → allLen n rs = true →
    vs = (lsOf vs ds).map (fun l => V.ref l.1) ∧ ∃ rows, ZN.SqNs Z.K F n (lsOf vs ds) rows ∧ ∀ i, i < n → Rps Z F (ZN.col i rows) (colD i rs)
  | [], [], rs, _, e, _ => by
    cases e
    exact ⟨rfl, [], trivial, fun i _ => trivial⟩
  | v :: vs, d :: ds, rs, h, e, ha => by
    unfold rowsD at e
    cases e1 : rowD d with
    | none => rw [e1] at e; cases e
    | some r =>
      cases e2 : rowsD ds with
      | none => rw [e1, e2] at e; cases e
      | some rs' =>
        rw [e1, e2] at e
        cases e
        have ha1 : r.length = n ∧ allLen n rs' = true := by
          unfold allLen at ha ⊢
          rw [List.all_cons, Bool.and_eq_true] at ha
          exact ⟨of_decide_eq_true (by simpa using ha.1), ha.2⟩
        obtain ⟨q1, rows, q2, q3⟩ := rows_at h.2 e2 ha1.2
        have key : ∃ a xs, v = .ref a ∧ ZN.SqN Z.K F (a, kindD d) xs ∧ Rps Z F xs r := by
          have h1 := h.1
          cases d with
          | lst ds' =>
            cases e1
            obtain ⟨a, xs, ev, sq, rp⟩ := h1
            exact ⟨a, xs, ev, sq, rp⟩
          | tup ds' =>
            cases e1
            obtain ⟨a, xs, ev, sq, rp⟩ := h1
            exact ⟨a, xs, ev, sq, rp⟩
          | _ => cases e1
        obtain ⟨a, xs, rfl, sq, rp⟩ := key
        refine ⟨?_, xs :: rows, ⟨sq, rp.length.trans ha1.1, q2⟩, fun i hi => ⟨?_, q3 i hi⟩⟩
        · show V.ref a :: vs = V.ref a :: _
          rw [← q1]
        · have : ∀ {xs : List V} {r : List D} (i : Nat), Rps Z F xs r → i < r.length → Rp Z F (xs.getD i .non) (r.getD i .non) := by
            intro xs
            induction xs with
            | nil => intro r i h hi; cases r with
              | nil => cases hi
              | cons => exact h.elim
            | cons x xs ih =>
              intro r i h hi
              cases r with
              | nil => cases hi
              | cons d r =>
                cases i with
                | zero => exact h.1
                | succ i => exact ih i h.2 (Nat.lt_of_succ_lt_succ hi)
          exact this i rp (by rw [ha1.1]; exact hi)
theorem sqns_same {H' : Hp} {n : Nat} (s : Same F H') : ∀ {ls : List (Addr × Bool)} {rows : List (List V)}, ZN.SqNs Z.K F n ls rows → ZN.SqNs Z.K H' n ls rows
  | [], [], h => h
  | l :: ls, xs :: xss, ⟨a, b, c⟩ => ⟨by
      unfold ZN.SqN at a ⊢
      cases k : l.2 <;> simp only [k, Bool.false_eq_true, if_true, if_false] at a ⊢
      · exact s.seq a
      · exact same_t s a, b, sqns_same s c⟩
theorem lsOf_len {vs : List V} {ds : List D} (hl : vs.length = ds.length) : (lsOf vs ds).length = vs.length := by
  induction vs generalizing ds with
  | nil => cases ds <;> rfl
  | cons v vs ih => cases ds with
    | nil => cases hl
    | cons d ds => simp [lsOf, ih (Nat.succ.inj hl)]
theorem rowsD_len : ∀ {ds : List D} {rs : List (List D)}, rowsD ds = some rs → rs.length = ds.length
  | [], _, e => by cases e; rfl
  | d :: ds, rs, e => by
    unfold rowsD at e
    cases e1 : rowD d with
    | none => rw [e1] at e; cases e
    | some r =>
      cases e2 : rowsD ds with
      | none => rw [e1, e2] at e; cases e
      | some rs' =>
        rw [e1, e2] at e
        cases e
        simp [rowsD_len e2]
theorem zip_want {vs : List V} {ds : List D} {rs : List (V × T)} {t : T} {Q : VK} (ro : Roots Z H (vs.zip (ds.map T.fz) ++ rs)) (hl : vs.length = ds.length) (e : gZipN ds = some t) (k : ∀ H' v, Roots Z H' ((v, t) :: rs) → Q v H') :
    ZN.Want Z.K vs H Q := by
  unfold gZipN at e
  split at e
  rotate_left
  · cases e
  rename_i r rs' er
  split at e
  rotate_left
  · cases e
  rename_i hc
  cases e
  obtain ⟨hal, hn, hls⟩ := hc
  have dl := rowsD_len er
  -- the rows at any state
  have rows_of : ∀ {H : Hp} {more : List (V × T)}, Roots Z H (more ++ (vs.zip (ds.map T.fz) ++ rs)) → vs = (lsOf vs ds).map (fun l => V.ref l.1) ∧ ∃ rows, ZN.SqNs Z.K H r.length (lsOf vs ds) rows ∧
      ∀ i, i < r.length → (ZN.col i rows).length = (colD i (r :: rs')).length ∧ Roots Z H ((ZN.col i rows).zip ((colD i (r :: rs')).map T.fz) ++ (more ++ (vs.zip (ds.map T.fz) ++ rs))) := by
    intro H more ro
    obtain ⟨F, fp, s, o, nd, dj⟩ := ro
    obtain ⟨f1, f2, o1, o2, rfl⟩ := o.split
    obtain ⟨f3, f4, o3, o4, rfl⟩ := o2.split
    obtain ⟨rp, rfl⟩ := own_rps hl o3
    obtain ⟨q1, rows, q2, q3⟩ := rows_at rp er hal
    refine ⟨q1, rows, sqns_same s q2, fun i hi => ⟨(q3 i hi).length, F, _, s, (rps_own (q3 i hi)).append o, nd, dj⟩⟩
  obtain ⟨q1, rows0, q2, _⟩ := rows_of (more := []) ro
  refine ⟨lsOf vs ds, rows0, r.length, q1, ?_, ?_, q2, fun q hq => ?_⟩
  · intro e0
    have := lsOf_len hl
    rw [e0] at this
    rw [← dl] at hl
    simp at this hl
    omega
  · rw [lsOf_len hl, hl, ← dl]; exact hls
  · refine ⟨fun i acc H => i ≤ r.length ∧ acc.length = i ∧ Roots Z H ((.ref q, .lst ((List.range i).map fun j => .fz (.tup (colD j (r :: rs'))))) :: (vs.zip (ds.map T.fz) ++ rs)) ∧ H q = some (.lst acc), ⟨Nat.zero_le _, rfl, ?_, upd_same⟩, ⟨fun i acc H ⟨hi, ha, ro, hq⟩ => ⟨hq, ?_⟩, fun acc H ⟨_, _, ro, _⟩ => ?_⟩⟩
    · exact Roots.newL (vs := []) (ts := []) rfl ro hq
    · obtain ⟨_, rows, s2, s3⟩ := rows_of (more := [_]) ro
      refine ⟨rows, s2, fun hi' => ⟨by omega, fun T hT => ?_⟩⟩
      obtain ⟨cl, rc⟩ := s3 i hi'
      have qT : q ≠ T := fun e => by rw [e, hT] at hq; cases hq
      have r1 := Roots.newT cl rc hT
      have r2 : Roots Z (upd H T (.tup (ZN.col i rows))) ((.ref q, .lst ((List.range i).map fun j => .fz (.tup (colD j (r :: rs'))))) :: (.ref T, .fz (.tup (colD i (r :: rs')))) :: (vs.zip (ds.map DL.T.fz) ++ rs)) := r1.perm (.swap ..)
      have hq' : upd H T (.tup (ZN.col i rows)) q = some (.lst acc) := by rw [upd_ne qT]; exact hq
      have r3 := Roots.appL r2 hq' (by simp [ha])
      refine ⟨by omega, by simp [ha], ?_, upd_same⟩
      rw [List.range_succ, List.map_append]
      exact r3
    · exact k H _ (Roots.drops (q := vs.zip (ds.map T.fz)) (ro.perm (by
        exact (List.perm_middle (l₁ := vs.zip (ds.map T.fz))).symm)))
end
section
variable {X : Cx} {G : Sg} {W : WX} {p p2 pos pos2 sp_ : Pos} {e : Expr} {es : List Expr} {src : List (Option Nat)} {fs : M (List T)} {fa : M T}
theorem de_listzip (hm : X.mg "list" = none) (hm2 : X.mg "zip" = none) (ha : DA X G W (e :: es) src fs) (hg : Gl X "list" := by rfl) (hg2 : Gl X "zip" := by rfl) (hh : G.hot = false := by rfl)
    (he : starEach [.Call (.Name "zip" p2) (e :: es) [] pos2] X.env = (false, eval (.Call (.Name "zip" p2) (e :: es) [] pos2) X.env) :: starEach [] X.env := by rfl)
    (hs : starEach (e :: es) X.env = (false, eval e X.env) :: starEach es X.env := by rfl) (hpl : (backTo pos2 (starEach es X.env)).any (·.1) = false := by rfl) :
    DE X G W (.Call (.Name "list" p) [.Call (.Name "zip" p2) (e :: es) [] pos2] [] pos) (fCB gZipN fs) := fun gd =>
  (ZN.pe_listzip (gd.calm hh) hg hm hg2 hm2 (ha gd) he hs hpl).imp (rd_cb (r := fun vs H Q => ZN.Want X.K vs H Q) fun H rs vs ds t Q ro hl e k => by
    rw [← gd.hK]
    exact zip_want ro hl e k)
@[simp] def gZipS (d : D) : Option T := match rowD d with
  | some ds => gZipN ds
  | none => none
theorem de_listzipS (hm : X.mg "list" = none) (hm2 : X.mg "zip" = none) (ha : DE X G W e fa) (hg : Gl X "list" := by rfl) (hg2 : Gl X "zip" := by rfl) (hh : G.hot = false := by rfl)
    (he : starEach [.Call (.Name "zip" p2) [.Starred e sp_] [] pos2] X.env = (false, eval (.Call (.Name "zip" p2) [.Starred e sp_] [] pos2) X.env) :: starEach [] X.env := by rfl)
    (hs : starEach [.Starred e sp_] X.env = [(true, eval e X.env)] := by rfl) :
    DE X G W (.Call (.Name "list" p) [.Call (.Name "zip" p2) [.Starred e sp_] [] pos2] [] pos) (fUn gZipS fa) := fun gd =>
  (ZN.pe_listzipS (gd.calm hh) hg hm hg2 hm2 (ha gd) he hs).imp fun σ H Q ⟨env, ex, r, h⟩ => rd_then r h fun H1 v t e1 r1 h1 => by
    cases e2 : gZipS (frz t) with
    | none => rw [e2] at h1; exact h1.elim
    | some t2 =>
      rw [e2] at h1
      have r1 := r1.freeze
      unfold gZipS at e2
      cases et : frz t with
      | lst ds =>
        rw [et] at r1 e2
        obtain ⟨a, xs, ev, sq, hl, ro⟩ := r1.out1.openL
        exact ⟨a, xs, ev, by rw [← gd.hK]; exact .inr sq, by rw [← gd.hK]; exact zip_want ro hl e2 fun H' v q => h1 H' v (r1.back1 q)⟩
      | tup ds =>
        rw [et] at r1 e2
        obtain ⟨a, xs, ev, sq, hl, ro⟩ := r1.out1.openT
        exact ⟨a, xs, ev, by rw [← gd.hK]; exact .inl sq, by rw [← gd.hK]; exact zip_want ro hl e2 fun H' v q => h1 H' v (r1.back1 q)⟩
      | _ => rw [et] at e2; cases e2
end
end DL

set_option maxHeartbeats 4000000
namespace DL
open PySem PySem.Spec PyProof.Rows L2
/-! ### for i in reversed(range(n)); a op b op c -/
section
variable {X : Cx} {G : Sg} {W : WX} {Z : Wd} {p p2 pos pos2 : Pos} {a b c : Expr} {fa fb fc : M T}
def revD (n : Nat) : List D := (List.range n).map fun i => .int ((n : Int) - 1 - (i : Nat))
theorem dwalk_rev {lo : Int} {n : Nat} (hlo : lo = (n : Int) - 1) : DWalk Z (Itc lo (-1) n) [] (revD n) where
  go := fun i H rs hi ro => by
    show i < n
    simpa [revD] using hi
  stop := fun H rs ro => by
    show n ≤ (revD n).length
    simp [revD]
  yld := fun i H H' x rs d hd ro y => by
    obtain ⟨rfl, rfl⟩ := y
    have hi : i < n := by
      have := lt_of_get hd
      simpa [revD] using this
    have : (revD n)[i]? = some (.int ((n : Int) - 1 - (i : Nat))) := by
      unfold revD
      rw [List.getElem?_map, List.getElem?_range hi]
      rfl
    rw [this] at hd
    cases hd
    have e : lo + (i : Nat) * (-1) = (n : Int) - 1 - (i : Nat) := by omega
    rw [e]
    exact Roots.add ro fun _ => rfl
def rev1D : D → Option (List D)
  | .int n => if rgOk n = true then some (revD n.toNat) else none
  | _ => none
@[simp] def iRev1 (f : M T) (env : Env) : R (List D) := (f env).bind fun t e => ofL e (rev1D (frz t))
theorem di_rev1 {tg : Expr} (hm : X.mg "reversed" = none) (hm2 : X.mg "range" = none) (ha : DE X G W a fa) (hg : Gl X "reversed" := by rfl) (hg2 : Gl X "range" := by rfl) (hs : starEach [.Call (.Name "range" p2) [a] [] pos2] X.env = (false, eval (.Call (.Name "range" p2) [a] [] pos2) X.env) :: starEach [] X.env := by rfl)
    (hs2 : starEach [a] X.env = (false, eval a X.env) :: starEach [] X.env := by rfl) : DI X G W tg (.Call (.Name "reversed" p) [.Call (.Name "range" p2) [a] [] pos2] [] pos) (iRev1 fa) := fun gd =>
  (pi_revR hg hm (prg_1 hg2 hm2 (ha gd) hs2) hs).imp fun σ H R ⟨env, ex, r, h⟩ => by
    refine rd_then r h fun H1 v t e r1 h1 => ?_
    unfold rev1D at h1
    split at h1
    · rename_i n en
      split at h1
      · rename_i hn
        have hn := rgOk_iff hn
        have r2 := r1.freeze
        rw [en] at r2
        have ev : v = .int n := r2.out1.fz
        subst ev
        have e0 : n - 0 = n := Int.sub_zero n
        refine ⟨n, rfl, by omega, by omega, hn.1, hn.2, ?_⟩
        rw [e0]
        exact h1 H1 _ [] (dwalk_rev (by omega)) r1.drop
      · exact h1.elim
    · exact h1.elim
@[simp] def fChain (g g' : D → D → Option T) (fa fb fc : M T) (env : Env) : R T := match fa env with
  | .ok a e1 => match fb e1 with
    | .ok b e2 => match g (frz a) (frz b) with
      | some (.fz (.bl true)) => match fc e2 with
        | .ok c e3 => ofO e3 (g' (frz b) (frz c))
        | _ => .no
      | some (.fz (.bl false)) => .ok (.fz (.bl false)) e2
      | _ => .no
    | _ => .no
  | _ => .no
theorem de_chain {op op' : CmpOp} {g g' : D → D → Option T} (ho : OpD X G.Z (compareOp op) g) (ho' : OpD X G.Z (compareOp op') g') (ha : DE X G W a fa) (hb : DE X G W b fb) (hc : DE X G W c fc)
    (hm : lastMarks [op, op'] [b, c] = false := by with_unfolding_all rfl) : DE X G W (.Compare a [op, op'] [b, c] pos) (fChain g g' fa fb fc) := fun gd => by
  obtain ⟨r, h2, h3⟩ := ho
  obtain ⟨r', h2', h3'⟩ := ho'
  refine (pe_chain h2 h2' (ha gd) (hb gd) (hc gd) hm).imp fun σ H Q ⟨env, ex, rel, h⟩ => ⟨env, ex, rel, ?_⟩
  unfold fChain at h
  cases e1 : fa env with
  | no => rw [e1] at h; exact h.elim
  | ex x e => rw [e1] at h; exact h.elim
  | ok t1 e =>
    rw [e1] at h
    intro H1 v1 r1
    refine ⟨e, _, r1, ?_⟩
    cases e2 : fb e with
    | no => simp only [e2] at h; exact h.elim
    | ex x e' => simp only [e2] at h; exact h.elim
    | ok t2 e' =>
      simp only [e2] at h
      intro H2 v2 r2
      have r3 : Rel G H2 σ e' ((v2, .fz (frz t2)) :: (v1, .fz (frz t1)) :: ex) := (((r2.freeze).perm (.swap ..)).freeze).perm (.swap ..)
      have ro := Rel.out (l := [(v2, .fz (frz t2)), (v1, .fz (frz t1))]) r3
      have ro2 : Roots G.Z H2 ((v2, .fz (frz t2)) :: (v1, .fz (frz t1)) :: (v2, .fz (frz t2)) :: _) := ro.dup.perm (.cons _ (.swap ..))
      cases e3 : g (frz t1) (frz t2) with
      | none => simp only [e3] at h; exact h.elim
      | some t =>
        simp only [e3] at h
        refine h3 H2 _ v1 v2 _ _ t _ ro2 e3 fun H3 v q => ?_
        split at h
        · rename_i et
          cases et
          have ev : v = .bl true := q.fz
          refine ⟨true, ev, ?_⟩
          rw [if_pos rfl]
          have r4 : Rel G H3 σ e' ((v2, .fz (frz t2)) :: ex) := r3.back1 q.drop
          refine ⟨e', _, r4, ?_⟩
          cases e5 : fc e' with
          | no => simp only [e5] at h; exact h.elim
          | ex x e'' => simp only [e5] at h; exact h.elim
          | ok t3 e3' =>
            simp only [e5] at h
            intro H4 v3 r5
            have h : Aft (XOk G W σ ex) _ (ofO e3' (g' (frz t2) (frz t3))) := h
            cases e6 : g' (frz t2) (frz t3) with
            | none => rw [e6] at h; exact h.elim
            | some t' =>
              rw [e6] at h
              have r6 := r5.freeze
              exact h3' H4 _ v2 v3 _ _ t' Q (Rel.out (l := [(v3, .fz (frz t3)), (v2, .fz (frz t2))]) r6) e6 fun H' v q => h H' v (r6.back1 q)
        · rename_i et
          cases et
          have ev : v = .bl false := q.fz
          refine ⟨false, ev, ?_⟩
          rw [if_neg Bool.false_ne_true]
          have q2 : Roots G.Z H3 _ := q.drop.drop
          exact h H3 _ (r3.back1 (Roots.add q2 fun _ => rfl))
        · exact h.elim
end
end DL

set_option maxHeartbeats 4000000
namespace DL
open PySem PySem.Spec PyProof.Rows L2
/-! ### an expression that only reads: all slots are as they were -/
mutual
@[simp] def pureD : D → Bool
  | .non => true
  | .bl _ => true
  | .int _ => true
  | .str _ => true
  | .ty _ => true
  | .cls _ => true
  | .tup xs => pureDs xs
  | _ => false
@[simp] def pureDs : List D → Bool
  | [] => true
  | d :: ds => pureD d && pureDs ds
end
mutual
@[simp] def pureT : T → Bool
  | .fz d => pureD d
  | .lst ts => pureTs ts
  | .obj _ _ ts => pureTs ts
  | _ => false
@[simp] def pureTs : List T → Bool
  | [] => true
  | t :: ts => pureT t && pureTs ts
end
section
variable {Z : Wd} {F F' F1 H H' : Hp}
mutual
theorem Own.notTup : ∀ {v : V} {t : T} {fp : List Addr}, Own Z F H v t fp → ∀ b ∈ fp, ∀ o, H b = some o → isTup o = false
  | _, .fz d, _, h, b, hb, o, e => by rw [h.2] at hb; cases hb
  | _, .lst ts, _, h, b, hb, o, e => by
    obtain ⟨a, vs, fp', _, q, r, rfl⟩ := h
    rcases List.mem_cons.mp hb with rfl | hb
    · rw [q] at e; cases e; rfl
    · exact Owns.notTup (ts := ts) r b hb o e
  | _, .obj c ns ts, _, h, b, hb, o, e => by
    obtain ⟨a, dx, vs, fp', _, q, l, qd, r, rfl⟩ := h
    rcases List.mem_cons.mp hb with rfl | hb
    · rw [q] at e; cases e; rfl
    rcases List.mem_cons.mp hb with rfl | hb
    · rw [qd] at e; cases e; rfl
    · exact Owns.notTup (ts := ts) r b hb o e
  | _, .dic ks ts, _, h, b, hb, o, e => by
    obtain ⟨a, kvs, fp', _, q, l, r, rfl⟩ := h
    rcases List.mem_cons.mp hb with rfl | hb
    · rw [q] at e; cases e; rfl
    · exact Owns.notTup (ts := ts) r b hb o e
  | _, .raw l, _, h, b, hb, o, e => by
    rw [h.2] at hb
    obtain ⟨p, hp, rfl⟩ := List.mem_map.mp hb
    rw [(h.1 p hp).1] at e
    cases e
    exact (h.1 p hp).2
theorem Owns.notTup : ∀ {vs : List V} {ts : List T} {fp : List Addr}, Owns Z F H vs ts fp → ∀ b ∈ fp, ∀ o, H b = some o → isTup o = false
  | [], [], _, h, b, hb, o, e => by
    have h : _ = [] := h
    rw [h] at hb; cases hb
  | _ :: _, t :: ts, _, h, b, hb, o, e => by
    obtain ⟨f1, f2, h1, h2, rfl⟩ := h
    rcases List.mem_append.mp hb with hb | hb
    · exact Own.notTup (t := t) h1 b hb o e
    · exact Owns.notTup (ts := ts) h2 b hb o e
  | [], _ :: _, _, h, _, _, _, _ => h.elim
  | _ :: _, [], _, h, _, _, _, _ => h.elim
end
theorem OwnR.notTup : ∀ {rs : List (V × T)} {fp : List Addr}, OwnR Z F H rs fp → ∀ b ∈ fp, ∀ o, H b = some o → isTup o = false
  | [], _, h, b, hb, o, e => by
    have h : _ = [] := h
    rw [h] at hb; cases hb
  | r :: rs, _, h, b, hb, o, e => by
    obtain ⟨f1, f2, h1, h2, rfl⟩ := h
    rcases List.mem_append.mp hb with hb | hb
    · exact Own.notTup h1 b hb o e
    · exact OwnR.notTup h2 b hb o e
/-- pure data by the tuples alone -/
theorem sqT_tup {a : Addr} {vs : List V} (k : ∀ b o, F1 b = some o → isTup o = true → F' b = some o) (h : SqT Z.K F1 a vs) : SqT Z.K F' a vs := by
  rcases h with (h | ⟨o, h⟩) | h
  · exact .inl (.inl (k _ _ h rfl))
  · exact .inl (.inr ⟨o, k _ _ h rfl⟩)
  · exact .inr h
mutual
theorem Rp.pure (k : ∀ b o, F1 b = some o → isTup o = true → F' b = some o) : ∀ {v : V} {d : D}, pureD d = true → Rp Z F1 v d → Rp Z F' v d
  | _, .non, _, h => h
  | _, .bl _, _, h => h
  | _, .int _, _, h => h
  | _, .str _, _, h => h
  | _, .ty _, _, h => h
  | _, .cls _, _, h => h
  | _, .tup ds, p, h => by
    obtain ⟨a, vs, e, q, r⟩ := h
    exact ⟨a, vs, e, sqT_tup (Z := Z) k q, Rps.pure k (ds := ds) p r⟩
  | _, .lst _, p, _ => by cases p
  | _, .obj .., p, _ => by cases p
  | _, .dic .., p, _ => by cases p
  | _, .xd .., p, _ => by cases p
  | _, .val _, p, _ => by cases p
  | _, .know _, p, _ => by cases p
  | _, .raw _, p, _ => by cases p
theorem Rps.pure (k : ∀ b o, F1 b = some o → isTup o = true → F' b = some o) : ∀ {vs : List V} {ds : List D}, pureDs ds = true → Rps Z F1 vs ds → Rps Z F' vs ds
  | [], [], _, _ => trivial
  | _ :: _, d :: ds, p, h => by
    have p := Bool.and_eq_true_iff.mp p
    exact ⟨Rp.pure k (d := d) p.1 h.1, Rps.pure k (ds := ds) p.2 h.2⟩
  | [], _ :: _, _, h => h
  | _ :: _, [], _, h => h
end
mutual
theorem Own.pure (k : ∀ b o, F1 b = some o → isTup o = true → F' b = some o) : ∀ {v : V} {t : T} {fp : List Addr}, pureT t = true → Own Z F1 H v t fp → Own Z F' H v t fp
  | _, .fz d, _, p, h => ⟨Rp.pure k p h.1, h.2⟩
  | _, .lst ts, _, p, h => by
    obtain ⟨a, vs, fp', e, q, r, rfl⟩ := h
    exact ⟨a, vs, fp', e, q, Owns.pure k (ts := ts) p r, rfl⟩
  | _, .obj c ns ts, _, p, h => by
    obtain ⟨a, dx, vs, fp', e, q, l, qd, r, rfl⟩ := h
    exact ⟨a, dx, vs, fp', e, q, l, qd, Owns.pure k (ts := ts) p r, rfl⟩
  | _, .dic .., _, p, _ => by cases p
  | _, .raw _, _, p, _ => by cases p
theorem Owns.pure (k : ∀ b o, F1 b = some o → isTup o = true → F' b = some o) : ∀ {vs : List V} {ts : List T} {fp : List Addr}, pureTs ts = true → Owns Z F1 H vs ts fp → Owns Z F' H vs ts fp
  | [], [], _, _, h => h
  | _ :: _, t :: ts, _, p, h => by
    obtain ⟨f1, f2, h1, h2, rfl⟩ := h
    have p := Bool.and_eq_true_iff.mp p
    exact ⟨f1, f2, Own.pure k (t := t) p.1 h1, Owns.pure k (ts := ts) p.2 h2, rfl⟩
  | [], _ :: _, _, _, h => h
  | _ :: _, [], _, _, h => h
end
end
@[simp] def frzE : Env → Env
  | [] => []
  | none :: e => none :: frzE e
  | some t :: e => some (.fz (frz t)) :: frzE e
theorem frzE_len : ∀ e : Env, (frzE e).length = e.length
  | [] => rfl
  | none :: e => congrArg (· + 1) (frzE_len e)
  | some _ :: e => congrArg (· + 1) (frzE_len e)
theorem frzE_fit : ∀ {σ : L2.St} {env : Env}, Fit σ env → Fit σ (frzE env) := by
  intro σ env f
  refine ⟨by rw [frzE_len]; exact f.1, fun i t e => ?_⟩
  have key : ∀ (env : Env) (i : Nat) (t : T), (frzE env)[i]? = some (some t) → ∃ u, env[i]? = some (some u) := by
    intro env
    induction env with
    | nil => intro i t e; simp at e
    | cons x env ih =>
      intro i t e
      cases i with
      | zero =>
        cases x with
        | none => simp at e
        | some u => exact ⟨u, rfl⟩
      | succ i =>
        cases x with
        | none => exact ih i t e
        | some u => exact ih i t e
  obtain ⟨u, hu⟩ := key env i t e
  exact f.2 i u hu
theorem frzE_slots {Z : Wd} {F F' H : Hp} (s : Same F F') : ∀ {σ : L2.St} {env : Env} {fp : List Addr}, OwnR Z F H (slots σ env) fp → (∀ b ∈ fp, F' b = H b) → OwnR Z F' H (slots σ (frzE env)) []
  | [], [], _, _, _ => rfl
  | [], _ :: _, _, _, _ => rfl
  | _ :: _, [], _, _, _ => by simp [slots, OwnR]
  | o :: σ, none :: env, fp, h, k => by
    cases o with
    | none => exact frzE_slots s (σ := σ) (env := env) h k
    | some v => exact frzE_slots s (σ := σ) (env := env) h k
  | none :: σ, some t :: env, fp, h, k => frzE_slots s (σ := σ) (env := env) h k
  | some v :: σ, some t :: env, fp, h, k => by
    obtain ⟨f1, f2, h1, h2, rfl⟩ := h
    exact ⟨[], [], ⟨Own.frz s h1 fun b hb => k b (List.mem_append_left _ hb), rfl⟩, frzE_slots s (σ := σ) (env := env) h2 fun b hb => k b (List.mem_append_right _ hb), rfl⟩
/-- before and behind a reading expression -/
theorem Rel.ro {G : Sg} {H : Hp} {σ : L2.St} {env : Env} {ex : List (V × T)} (r : Rel G H σ env ex) : ∃ ex', Rel G H σ (frzE env) ex' ∧
    ∀ H' e' (l : List (V × T)), (∀ p ∈ l, pureT p.2 = true) → Rel G H' σ e' (l ++ ex') → Rel G H' σ env (l ++ ex) := by
  obtain ⟨ft, hio, F, fp, s, ow, nd, dj⟩ := r
  obtain ⟨f1, f2, o1, o2, rfl⟩ := OwnR.split ow
  have ndp := List.nodup_append.mp nd
  have th1 := o1.there
  have th2 := o2.there
  let F0 : Hp := fun b => if b ∈ f1 then H b else F b
  have in1 : ∀ b ∈ f1, F0 b = H b := fun b hb => if_pos hb
  have out : ∀ b, b ∉ f1 → F0 b = F b := fun b hb => if_neg hb
  have s1 : Same F F0 := fun b x e => by
    have nb : b ∉ f1 := fun hb => by
      rw [dj b (List.mem_append_left _ hb)] at e
      cases e
    rw [out b nb]; exact e
  have s2 : Same F0 H := fun b x e => by
    by_cases hb : b ∈ f1
    · rw [in1 b hb] at e; exact e
    · rw [out b hb] at e; exact s b x e
  let L : List (Addr × HO) := f2.map fun b => (b, (H b).getD (.lst []))
  have hL : ∀ p ∈ L, H p.1 = some p.2 ∧ isTup p.2 = false := fun p hp => by
    obtain ⟨b, hb, rfl⟩ := List.mem_map.mp hp
    obtain ⟨o, eo⟩ := th2 b hb
    have : H b = some ((H b).getD (.lst [])) := by rw [eo]; rfl
    exact ⟨this, o2.notTup b hb _ this⟩
  have eL : L.map (·.1) = f2 := by
    show (f2.map fun b => (b, (H b).getD (.lst []))).map (·.1) = f2
    rw [List.map_map]
    show f2.map (fun b => b) = f2
    exact List.map_id f2
  refine ⟨[(.non, .raw L), (.non, .fz (.know F0))], ⟨frzE_fit ft, ⟨by rw [frzE_len]; exact hio.1, hio.2⟩, F0, f2, s2, ?_, ndp.2.1, fun b hb => ?_⟩, ?_⟩
  · have a1 := frzE_slots s1 o1 in1
    have a2 : OwnR G.Z F0 H [(V.non, T.raw L), (V.non, .fz (.know F0))] f2 := ⟨f2, [], ⟨hL, eL.symm⟩, ⟨[], [], ⟨fun _ _ e => e, rfl⟩, rfl, rfl⟩, (List.append_nil _).symm⟩
    exact a1.append a2
  · rw [out b fun h1 => ndp.2.2 b h1 b hb rfl]
    exact dj b (List.mem_append_right _ hb)
  · intro H' e' l hl r'
    have ro : Roots G.Z H' (l ++ [(V.non, T.raw L), (V.non, .fz (.know F0))]) := r'.2.2.drops
    obtain ⟨F1, fp1, t1, ow1, nd1, dj1⟩ := ro
    obtain ⟨g1, g2, p1, p2, rfl⟩ := OwnR.split ow1
    obtain ⟨_, _, ⟨hraw, rfl⟩, ⟨_, _, ⟨hkn, rfl⟩, h0, rfl⟩, rfl⟩ := p2
    have h0 : _ = [] := h0
    subst h0
    have hkn : Same F0 F1 := hkn
    rw [eL, List.append_nil] at nd1
    rw [eL, List.append_nil] at dj1
    have nd1p := List.nodup_append.mp nd1
    let F2 : Hp := fun b => match F1 b with
      | some o => if isTup o = true then some o else F b
      | none => F b
    have sF : Same F F2 := fun b x e => by
      have e1 : F1 b = some x := hkn b x (s1 b x e)
      show (match F1 b with | some o => if isTup o = true then some o else F b | none => F b) = some x
      rw [e1]
      show (if isTup x = true then some x else F b) = some x
      split
      · rfl
      · exact e
    have sH : Same F2 H' := fun b x e => by
      have e : (match F1 b with | some o => if isTup o = true then some o else F b | none => F b) = some x := e
      cases q : F1 b with
      | none =>
        rw [q] at e
        have := hkn b x (s1 b x e)
        rw [q] at this; cases this
      | some o =>
        rw [q] at e
        have e : (if isTup o = true then some o else F b) = some x := e
        split at e
        · cases e; exact t1 b _ q
        · have z := hkn b x (s1 b x e)
          exact t1 b x z
    have kT : ∀ b o, F1 b = some o → isTup o = true → F2 b = some o := fun b o e ht => by
      show (match F1 b with | some o => if isTup o = true then some o else F b | none => F b) = some o
      rw [e]
      exact if_pos ht
    have h1eq : ∀ b ∈ f1, H' b = H b := fun b hb => by
      obtain ⟨o, eo⟩ := th1 b hb
      rw [eo]
      exact t1 b o (hkn b o (by rw [in1 b hb]; exact eo))
    have h2eq : ∀ b ∈ f2, H' b = H b := fun b hb => by
      have hm : (b, (H b).getD (.lst [])) ∈ L := List.mem_map_of_mem hb
      obtain ⟨o, eo⟩ := th2 b hb
      rw [eo, (hraw _ hm).1]
      show some ((H b).getD (.lst [])) = some o
      rw [eo]; rfl
    have pl : ∀ {l : List (V × T)} {g : List Addr}, (∀ p ∈ l, pureT p.2 = true) → OwnR G.Z F1 H' l g → OwnR G.Z F2 H' l g := by
      intro l
      induction l with
      | nil => exact fun _ h => h
      | cons x l ih =>
        rintro g hp ⟨a1, a2, q1, q2, rfl⟩
        exact ⟨a1, a2, Own.pure kT (hp x (List.mem_cons_self ..)) q1, ih (fun p hp' => hp p (List.mem_cons_of_mem _ hp')) q2, rfl⟩
    have F2n : ∀ b, F1 b = none → F2 b = none := fun b e => by
      show (match F1 b with | some o => if isTup o = true then some o else F b | none => F b) = none
      rw [e]
      cases q : F b with
      | none => rfl
      | some x =>
        have := hkn b x (s1 b x q)
        rw [e] at this; cases this
    have in1n : ∀ b ∈ f1, F2 b = none := fun b hb => by
      obtain ⟨o, eo⟩ := th1 b hb
      have e1 : F1 b = some o := hkn b o (by rw [in1 b hb]; exact eo)
      show (match F1 b with | some o => if isTup o = true then some o else F b | none => F b) = none
      rw [e1]
      show (if isTup o = true then some o else F b) = none
      rw [o1.notTup b hb o eo, if_neg Bool.false_ne_true]
      exact dj b (List.mem_append_left _ hb)
    refine ⟨ft, hio, F2, f1 ++ (g1 ++ f2), sH, OwnR.append (OwnR.stay sF o1 h1eq) (OwnR.append (pl hl p1) (OwnR.stay sF o2 h2eq)), ?_, ?_⟩
    · refine List.nodup_append.mpr ⟨ndp.1, nd1, fun a ha b hb e => ?_⟩
      subst e
      rcases List.mem_append.mp hb with hb | hb
      · have z := dj1 a (List.mem_append_left _ hb)
        obtain ⟨o, eo⟩ := th1 a ha
        have e1 : F1 a = some o := hkn a o (by rw [in1 a ha]; exact eo)
        rw [z] at e1; cases e1
      · exact ndp.2.2 a ha a hb rfl
    · intro b hb
      rcases List.mem_append.mp hb with hb | hb
      · exact in1n b hb
      · exact F2n b (dj1 b hb)
section
variable {X : Cx} {G : Sg} {W : WX} {e : Expr} {f : M T} {g : M Bool}
@[simp] def fRo (f : M T) (env : Env) : R T := match f (frzE env) with
  | .ok t _ => if pureT t = true then .ok t env else .no
  | _ => .no
@[simp] def fRoT (f : M Bool) (env : Env) : R Bool := match f (frzE env) with
  | .ok t _ => .ok t env
  | _ => .no
theorem de_ro (h : DE X G W e f) : DE X G W e (fRo f) := fun gd => (h gd).imp fun σ H Q ⟨env, ex, r, h⟩ => by
  obtain ⟨ex', r1, k⟩ := r.ro
  refine ⟨frzE env, ex', r1, ?_⟩
  unfold fRo at h
  split at h
  · rename_i t e' et
    rw [et]
    split at h
    · rename_i hp
      exact fun H' v r' => h H' v (k H' e' [(v, t)] (fun p hp' => by cases List.mem_singleton.mp hp'; exact hp) r')
    · exact h.elim
  · exact h.elim
theorem dt_ro (h : DT X G W e g) : DT X G W e (fRoT g) := fun gd => (h gd).imp fun σ H Q ⟨env, ex, r, h⟩ => by
  obtain ⟨ex', r1, k⟩ := r.ro
  refine ⟨frzE env, ex', r1, ?_⟩
  unfold fRoT at h
  split at h
  · rename_i t e' et
    rw [et]
    exact fun H' r' => h H' (k H' e' [] (fun p hp' => by cases hp') r')
  · exact h.elim
end
end DL

set_option maxHeartbeats 4000000
namespace DL
open PySem PySem.Spec PyProof.Rows L2
/-! ### places: parts of an owned tree -/
@[simp] def chd : T → Nat → Option T
  | .lst ts, j => ts[j]?
  | .obj _ _ ts, j => ts[j]?
  | .dic _ ts, j => ts[j]?
  | _, _ => none
@[simp] def setKid : T → Nat → T → T
  | .lst ts, j, s => .lst (ts.set j s)
  | .obj c ns ts, j, s => .obj c ns (ts.set j s)
  | .dic ks ts, j, s => .dic ks (ts.set j s)
  | t, _, _ => t
theorem chd_set {t s u : T} {j : Nat} (h : chd t j = some u) : chd (setKid t j s) j = some s := by
  unfold chd at h
  split at h
  · exact List.getElem?_set_self (lt_of_get h)
  · exact List.getElem?_set_self (lt_of_get h)
  · exact List.getElem?_set_self (lt_of_get h)
  · cases h
theorem setKid_set {t a b : T} {j : Nat} : setKid (setKid t j a) j b = setKid t j b := by
  cases t <;> simp [setKid, List.set_set]
section
variable {Z : Wd} {F F' H H' : Hp}
theorem Owns.unplug : ∀ {vs : List V} {ts : List T} {fp : List Addr} {j : Nat} {t : T}, Owns Z F H vs ts fp → ts[j]? = some t → ∃ v f g, vs[j]? = some v ∧ Own Z F H v t f ∧ Owns Z F H vs (ts.set j (.fz (.val v))) g ∧ fp.Perm (f ++ g)
  | [], [], _, _, _, _, e => by simp at e
  | v :: vs, t :: ts, _, 0, u, h, e => by
    obtain ⟨f1, f2, h1, h2, rfl⟩ := h
    have e : t = u := Option.some.inj e
    subst e
    exact ⟨v, f1, f2, rfl, h1, ⟨[], f2, ⟨rfl, rfl⟩, h2, rfl⟩, .refl _⟩
  | v :: vs, t :: ts, _, j + 1, u, h, e => by
    obtain ⟨f1, f2, h1, h2, rfl⟩ := h
    obtain ⟨w, f, g, e1, o1, o2, p⟩ := Owns.unplug (j := j) h2 e
    refine ⟨w, f, f1 ++ g, e1, o1, ⟨f1, g, h1, o2, rfl⟩, ?_⟩
    exact (p.append_left f1).trans (perm3 ..)
  | [], _ :: _, _, _, _, h, _ => h.elim
  | _ :: _, [], _, _, _, h, _ => h.elim
theorem Owns.plug : ∀ {vs : List V} {ts : List T} {g : List Addr} {j : Nat} {v : V} {s : T} {f : List Addr}, Owns Z F H vs ts g → ts[j]? = some (.fz (.val v)) → Own Z F H v s f → ∃ fp, Owns Z F H vs (ts.set j s) fp ∧ (f ++ g).Perm fp
  | [], [], _, _, _, _, _, _, e, _ => by simp at e
  | v :: vs, t :: ts, _, 0, w, s, f, h, e, o => by
    obtain ⟨f1, f2, h1, h2, rfl⟩ := h
    have e : t = _ := Option.some.inj e
    subst e
    obtain ⟨h1, rfl⟩ := h1
    have h1 : v = w := h1
    subst h1
    exact ⟨f ++ f2, ⟨f, f2, o, h2, rfl⟩, .refl _⟩
  | v :: vs, t :: ts, _, j + 1, w, s, f, h, e, o => by
    obtain ⟨f1, f2, h1, h2, rfl⟩ := h
    obtain ⟨fp, o2, p⟩ := Owns.plug (j := j) h2 e o
    refine ⟨f1 ++ fp, ⟨f1, fp, h1, o2, rfl⟩, ?_⟩
    exact (perm3 ..).trans (p.append_left f1)
  | [], _ :: _, _, _, _, _, _, h, _, _ => h.elim
  | _ :: _, [], _, _, _, _, _, h, _, _ => h.elim
theorem Own.unplug {vr : V} {t0 t : T} {fp : List Addr} {j : Nat} (h : Own Z F H vr t0 fp) (e : chd t0 j = some t) : ∃ v f g, Own Z F H v t f ∧ Own Z F H vr (setKid t0 j (.fz (.val v))) g ∧ fp.Perm (f ++ g) := by
  unfold chd at e
  split at e
  · obtain ⟨a, vs, fp', e1, q, r, rfl⟩ := h
    obtain ⟨v, f, g, _, o1, o2, p⟩ := r.unplug e
    exact ⟨v, f, a :: g, o1, ⟨a, vs, g, e1, q, o2, rfl⟩, (p.cons a).trans List.perm_middle.symm⟩
  · obtain ⟨a, dx, vs, fp', e1, q, l, qd, r, rfl⟩ := h
    obtain ⟨v, f, g, _, o1, o2, p⟩ := r.unplug e
    exact ⟨v, f, a :: dx :: g, o1, ⟨a, dx, vs, g, e1, q, l, qd, o2, rfl⟩, ((p.cons dx).cons a).trans (perm3 [a, dx] f g)⟩
  · obtain ⟨a, kvs, fp', e1, q, l, r, rfl⟩ := h
    obtain ⟨v, f, g, _, o1, o2, p⟩ := r.unplug e
    exact ⟨v, f, a :: g, o1, ⟨a, kvs, g, e1, q, l, o2, rfl⟩, (p.cons a).trans List.perm_middle.symm⟩
  · cases e
theorem Own.plug {vr v : V} {t0 s : T} {f g : List Addr} {j : Nat} (h : Own Z F H vr t0 g) (e : chd t0 j = some (.fz (.val v))) (o : Own Z F H v s f) : ∃ fp, Own Z F H vr (setKid t0 j s) fp ∧ (f ++ g).Perm fp := by
  unfold chd at e
  split at e
  · obtain ⟨a, vs, fp', e1, q, r, rfl⟩ := h
    obtain ⟨fp, o2, p⟩ := r.plug e o
    exact ⟨a :: fp, ⟨a, vs, fp, e1, q, o2, rfl⟩, List.perm_middle.trans (p.cons a)⟩
  · obtain ⟨a, dx, vs, fp', e1, q, l, qd, r, rfl⟩ := h
    obtain ⟨fp, o2, p⟩ := r.plug e o
    exact ⟨a :: dx :: fp, ⟨a, dx, vs, fp, e1, q, l, qd, o2, rfl⟩, (perm3 f [a, dx] fp').trans ((p.cons dx).cons a)⟩
  · obtain ⟨a, kvs, fp', e1, q, l, r, rfl⟩ := h
    obtain ⟨fp, o2, p⟩ := r.plug e o
    exact ⟨a :: fp, ⟨a, kvs, fp, e1, q, l, o2, rfl⟩, List.perm_middle.trans (p.cons a)⟩
  · cases e
theorem Roots.unplug {vr : V} {t0 t : T} {j : Nat} {rs : List (V × T)} (h : Roots Z H ((vr, t0) :: rs)) (e : chd t0 j = some t) : ∃ v, Roots Z H ((v, t) :: (vr, setKid t0 j (.fz (.val v))) :: rs) := by
  obtain ⟨F, _, s, ⟨f1, f2, o1, o2, rfl⟩, n, d⟩ := h
  obtain ⟨v, f, g, k1, k2, p⟩ := o1.unplug e
  have pp : (f1 ++ f2).Perm (f ++ (g ++ f2)) := by
    rw [← List.append_assoc]
    exact p.append_right f2
  exact ⟨v, F, f ++ (g ++ f2), s, ⟨f, g ++ f2, k1, ⟨g, f2, k2, o2, rfl⟩, rfl⟩, pp.nodup_iff.mp n, fun b hb => d b (pp.mem_iff.mpr hb)⟩
theorem Roots.plug {vr v : V} {t0 s : T} {j : Nat} {rs : List (V × T)} (h : Roots Z H ((v, s) :: (vr, t0) :: rs)) (e : chd t0 j = some (.fz (.val v))) : Roots Z H ((vr, setKid t0 j s) :: rs) := by
  obtain ⟨F, _, sm, ⟨f, _, o1, ⟨g, f2, o2, o3, rfl⟩, rfl⟩, n, d⟩ := h
  obtain ⟨fp, k, p⟩ := o2.plug e o1
  have pp : (f ++ (g ++ f2)).Perm (fp ++ f2) := by
    rw [← List.append_assoc]
    exact p.append_right f2
  exact ⟨F, fp ++ f2, sm, ⟨fp, f2, k, o3, rfl⟩, pp.nodup_iff.mp n, fun b hb => d b (pp.mem_iff.mpr hb)⟩
/-- the value at a hole -/
theorem Owns.at : ∀ {vs : List V} {ts : List T} {fp : List Addr} {j : Nat} {v : V}, Owns Z F H vs ts fp → ts[j]? = some (.fz (.val v)) → vs[j]? = some v
  | [], [], _, _, _, _, e => by simp at e
  | v :: vs, t :: ts, _, 0, u, h, e => by
    obtain ⟨f1, f2, h1, h2, rfl⟩ := h
    have e : t = _ := Option.some.inj e
    subst e
    have h1 : v = u := h1.1
    subst h1
    rfl
  | v :: vs, t :: ts, _, j + 1, u, h, e => by
    obtain ⟨f1, f2, h1, h2, rfl⟩ := h
    exact Owns.at (j := j) h2 e
  | [], _ :: _, _, _, _, h, _ => h.elim
  | _ :: _, [], _, _, _, h, _ => h.elim
theorem Roots.lstAt {v w : V} {ts : List T} {j : Nat} {rs : List (V × T)} (h : Roots Z H ((v, .lst ts) :: rs)) (e : ts[j]? = some (.fz (.val w))) : ∃ p vs, v = .ref p ∧ H p = some (.lst vs) ∧ vs.length = ts.length ∧ vs[j]? = some w := by
  obtain ⟨F, _, s, ⟨_, f2, ⟨a, ws', f1, e1, e2, o1, rfl⟩, o2, rfl⟩, n, d⟩ := h
  exact ⟨a, ws', e1, e2, o1.length, o1.at e⟩
end
/-- what is around a place, from the innermost on -/
@[simp] def fr : V → List (Nat × T) → List V → List (V × T)
  | v, (j, t) :: fs, w :: ws => (w, setKid t j (.fz (.val v))) :: fr w fs ws
  | _, _, _ => []
@[simp] def topV : V → List V → V
  | v, [] => v
  | _, w :: ws => topV w ws
@[simp] def build : T → List (Nat × T) → T
  | s, [] => s
  | s, (j, t) :: fs => build (setKid t j s) fs
def okFr : List (Nat × T) → Prop
  | [] => True
  | (j, t) :: fs => (∃ u, chd t j = some u) ∧ okFr fs
theorem Roots.build {Z : Wd} {H : Hp} : ∀ {fs : List (Nat × T)} {v : V} {s : T} {ws : List V} {rs : List (V × T)}, ws.length = fs.length → okFr fs → Roots Z H ((v, s) :: (fr v fs ws ++ rs)) → Roots Z H ((topV v ws, build s fs) :: rs)
  | [], v, s, [], rs, _, _, h => h
  | [], _, _, _ :: _, _, hl, _, _ => by cases hl
  | _ :: _, _, _, [], _, hl, _, _ => by cases hl
  | (j, t) :: fs, v, s, w :: ws, rs, hl, ok, h => by
    obtain ⟨⟨u, hu⟩, ok⟩ := ok
    have h1 := Roots.plug h (chd_set hu)
    rw [setKid_set] at h1
    exact Roots.build (fs := fs) (v := w) (ws := ws) (Nat.succ.inj hl) ok h1
structure Pl where
  i : Nat
  fs : List (Nat × T)
  sub : T
def rdP (G : Sg) (W : WX) (f : M Pl) : TE := fun σ H Q => ∃ env ex, Rel G H σ env ex ∧ Aft (XOk G W σ ex) (fun p e => ∀ H' v ws, ws.length = p.fs.length → okFr p.fs → σ[p.i]? = some (some (topV v ws)) →
  Rel G H' σ e (((v, p.sub) :: fr v p.fs ws) ++ ex) → Q v H') (f env)
def DP (X : Cx) (G : Sg) (W : WX) (e : Expr) (f : M Pl) : Prop := Good X G W → PE X e (rdP G W f)
section
variable {X : Cx} {G : Sg} {W : WX} {a b c e : Expr} {fa fb : M T} {fp : M Pl} {pos : Pos}
/-- the place as a whole, put back -/
theorem Rel.unfocus {H : Hp} {σ : L2.St} {env : Env} {ex : List (V × T)} {v : V} {s : T} {fs : List (Nat × T)} {ws : List V} {i : Nat} (r : Rel G H σ env (((v, s) :: fr v fs ws) ++ ex)) (hl : ws.length = fs.length) (ok : okFr fs) (hi : σ[i]? = some (some (topV v ws))) : Rel G H σ (env.set i (some (build s fs))) ex := by
  have ro : Roots G.Z H ((v, s) :: (fr v fs ws ++ (slots σ env ++ ex))) := r.out
  exact (r.back1 (Roots.build hl ok ro)).put hi
@[simp] def fPl (i : Nat) (env : Env) : R Pl := match env[i]? with
  | some (some t) => .ok ⟨i, [], t⟩ (env.set i none)
  | _ => .no
theorem dp_name (i : Nat) {x : Str} (hN : X.N[i]? = some x := by rfl) (hv : Vis X.env.scope x := by first | exact Or.inl rfl | exact Or.inr (Or.inl rfl) | exact Or.inr (Or.inr rfl)) (hd : (x == ("__debug__" : Str)) = false := by decide) (hcd : (x == ("__classdict__" : Str)) = false := by decide) :
    DP X G W (.Name x pos) (fPl i) := fun g =>
  (pe_var hN hv hd hcd).imp fun σ H Q ⟨env, ex, r, h⟩ => by
    unfold fPl at h
    split at h
    · rename_i t e
      obtain ⟨v, ev, r1⟩ := r.take e
      exact ⟨v, ev, h H v [] rfl trivial ev r1⟩
    · exact h.elim
@[simp] def plIx (p : Pl) (k : D) (e : Env) : R Pl := match p.sub, k with
  | .lst ts, .int n => match ixN ts.length n with
    | some j => match ts[j]? with
      | some c => .ok ⟨p.i, (j, .lst ts) :: p.fs, c⟩ e
      | none => .no
    | none => .no
  | _, _ => .no
@[simp] def fPlIx (fp : M Pl) (fb : M T) (env : Env) : R Pl := (fp env).bind fun p e => (fb e).bind fun k e2 => plIx p (frz k) e2
theorem dp_ix (ha : DP X G W a fp) (hb : DE X G W b fb) (hs : PlainIx b := by exact fun _ _ => rfl) : DP X G W (.Subscript a b pos) (fPlIx fp fb) := fun gd =>
  (pe_ix ix_seq (ha gd) (hb gd) hs).imp fun σ H Q ⟨env, ex, r, h⟩ => by
    refine ⟨env, ex, r, aft_more (l := []) (aft_bind h) fun p e h1 H1 v ws hl ok ht r1 => ?_⟩
    refine ⟨e, _, r1, aft_more (aft_bind h1) fun k e2 h2 H2 y r2 => ?_⟩
    unfold plIx at h2
    split at h2
    · rename_i ts n es en
      split at h2
      · rename_i j ej
        split at h2
        · rename_i c ec
          have ry : y = .int n := by
            have z := r2.freeze.out1.fz
            rw [en] at z
            exact z
          have r3 := r2.drop
          rw [es] at r3
          have ro : Roots G.Z H2 ((v, .lst ts) :: (fr v p.fs ws ++ (slots σ e2 ++ ex))) := r3.out
          obtain ⟨w, ro2⟩ := Roots.unplug (t := c) (j := j) ro ec
          have hj := lt_of_get ec
          obtain ⟨q, vs, e1, hp, hlen, hw⟩ := ro2.drop.lstAt (j := j) (w := w) (List.getElem?_set_self hj)
          subst e1
          refine .inl ⟨q, vs, n, w, rfl, ry, SqL.of hp, ?_, ?_⟩
          · unfold L2.atI
            rw [hlen, List.length_set, ej]
            exact hw
          · refine h2 H2 w (.ref q :: ws) (by simp [hl]) ⟨⟨c, ec⟩, ok⟩ ht ?_
            exact r3.back (l := (w, c) :: (.ref q, setKid (.lst ts) j (.fz (.val w))) :: fr (.ref q) p.fs ws) ro2
        · exact h2.elim
      · exact h2.elim
    · exact h2.elim
/-! reading at a place -/
@[simp] def plGet (p : Pl) (k : D) (e : Env) : R T := match peekT p.sub k with
  | some (.fz d) => .ok (.fz d) (e.set p.i (some (build p.sub p.fs)))
  | _ => .no
@[simp] def fPlGet (fp : M Pl) (fb : M T) (env : Env) : R T := (fp env).bind fun p e => (fb e).bind fun k e2 => plGet p (frz k) e2
theorem de_plGet (ha : DP X G W a fp) (hb : DE X G W b fb) (hs : PlainIx b := by exact fun _ _ => rfl) : DE X G W (.Subscript a b pos) (fPlGet fp fb) := fun gd =>
  (pe_ix ix_seq (ha gd) (hb gd) hs).imp fun σ H Q ⟨env, ex, r, h⟩ => by
    refine ⟨env, ex, r, aft_more (l := []) (aft_bind h) fun p e h1 H1 v ws hl ok ht r1 => ?_⟩
    refine ⟨e, _, r1, aft_more (aft_bind h1) fun k e2 h2 H2 y r2 => ?_⟩
    unfold plGet at h2
    split at h2
    · rename_i d ed
      have ry : Rp G.Z H2 y (frz k) := r2.freeze.out1.fz
      have r3 := r2.drop
      have ro : Roots G.Z H2 ((v, p.sub) :: (fr v p.fs ws ++ (slots σ e2 ++ ex))) := r3.out
      rw [← gd.hK]
      refine peekT_ok ro ry ed fun w ro' => h2 H2 w ?_
      have r4 : Rel G H2 σ e2 (((v, p.sub) :: fr v p.fs ws) ++ ((w, .fz d) :: ex)) := by
        have := r3.back (l := (w, .fz d) :: (v, p.sub) :: fr v p.fs ws) (ex := ex) ro'
        exact this.perm (List.perm_middle (l₁ := (v, p.sub) :: fr v p.fs ws)).symm
      exact r4.unfocus hl ok ht
    · exact h2.elim
/-! a place's item stored -/
@[simp] def plPut (p : Pl) (t : T) (k : D) (e : Env) : Option Env := match p.sub, k with
  | .lst ts, .int n => (ixN ts.length n).map fun j => e.set p.i (some (build (.lst (ts.set j t)) p.fs))
  | _, _ => none
@[simp] def sPlPut (fp : M Pl) (fb : M T) (t : T) (env : Env) : Option Env := match fp env with
  | .ok p e => (match fb e with
    | .ok k e2 => plPut p t (frz k) e2
    | _ => none)
  | _ => none
theorem dg_plPut (hc : DP X G W a fp) (hb : DE X G W b fb) (ha : ∀ v, assign (.Subscript a b pos) X.env v = (do
      let ov ← holding [v] (eval a X.env)
      let iv ← holding [v, ov] (eval b X.env)
      standAt pos
      holding [v, ov, iv] (setItem ov iv v)
      release [v, ov, iv] []) := by intro _; rfl) :
    DG X G W (.Subscript a b pos) [] (sPlPut fp fb) := fun gd =>
  (pg_sub (hc gd) (hb gd) set_list ha).imp fun v σ H Q ⟨env, ex, t, r, e, he, h⟩ => by
    unfold sPlPut at he
    split at he
    · rename_i p e1 ep
      refine ⟨env, (v, t) :: ex, r, ?_⟩
      rw [ep]
      intro H1 o ws hl ok ht r1
      split at he
      · rename_i k e2 ek
        refine ⟨e1, _, r1, ?_⟩
        rw [ek]
        intro H2 y r2
        unfold plPut at he
        split at he
        · rename_i ts n es en
          obtain ⟨j, ej, rfl⟩ := Option.map_eq_some_iff.mp he
          have ry : y = .int n := by
            have z := r2.freeze.out1.fz
            rw [en] at z
            exact z
          have r3 : Rel G H2 σ e2 (((o, p.sub) :: fr o p.fs ws) ++ ((v, t) :: ex)) := r2.drop
          rw [es] at r3
          have r4 : Rel G H2 σ e2 (((o, .lst ts) :: (v, t) :: fr o p.fs ws) ++ ex) := r3.perm ((List.perm_middle (l₁ := fr o p.fs ws)).cons _)
          obtain ⟨pp, vs, eq, hp, hlen⟩ := r4.out1.lst
          subst eq
          have ro : Roots G.Z H2 ((.ref pp, .lst ts) :: (v, t) :: (fr (.ref pp) p.fs ws ++ (slots σ e2 ++ ex))) := r4.out
          have ro2 := Roots.setL ro hp hlen (ixN_seq ej).2.1
          refine ⟨pp, vs, n, j, rfl, ry, hp, by rw [hlen]; exact ej, h σ _ (Off.refl ..) ?_⟩
          have r5 := r4.back (l := (.ref pp, .lst (ts.set j t)) :: fr (.ref pp) p.fs ws) (ex := ex) ro2
          exact r5.unfocus hl ok ht
        · cases he
      · cases he
    · cases he
end
end DL

set_option maxHeartbeats 4000000
namespace DL
open PySem PySem.Spec PyProof.Rows L2
/-! ### a list opened -/
abbrev hole (w : V) : T := .fz (.val w)
section
variable {Z : Wd} {F F' H H' : Hp}
theorem owns_holes : ∀ (ws : List V), Owns Z F H ws (ws.map hole) []
  | [] => rfl
  | w :: ws => ⟨[], [], ⟨rfl, rfl⟩, owns_holes ws, rfl⟩
theorem holes_eq : ∀ {vs ws : List V} {f : List Addr}, Owns Z F H vs (ws.map hole) f → vs = ws ∧ f = []
  | [], [], _, h => ⟨rfl, h⟩
  | v :: vs, w :: ws, _, h => by
    obtain ⟨f1, f2, h1, h2, rfl⟩ := h
    obtain ⟨e1, e2⟩ := holes_eq h2
    have e3 : v = w := h1.1
    have e4 : f1 = [] := h1.2
    rw [e1, e2, e3, e4]
    exact ⟨rfl, rfl⟩
  | [], _ :: _, _, h => h.elim
  | _ :: _, [], _, h => h.elim
theorem Roots.open {vr : V} {ts : List T} {rs : List (V × T)} (h : Roots Z H ((vr, .lst ts) :: rs)) : ∃ p ws, vr = .ref p ∧ H p = some (.lst ws) ∧ ws.length = ts.length ∧ Roots Z H ((vr, .lst (ws.map hole)) :: (ws.zip ts ++ rs)) := by
  obtain ⟨F, _, s, ⟨_, f2, ⟨a, ws, f1, e1, e2, o1, rfl⟩, o2, rfl⟩, n, d⟩ := h
  refine ⟨a, ws, e1, e2, o1.length, F, (a :: f1) ++ f2, s, ⟨[a], f1 ++ f2, ⟨a, ws, [], e1, e2, owns_holes ws, rfl⟩, OwnR.append o1.to o2, rfl⟩, n, d⟩
theorem Roots.opened {vr : V} {ws : List V} {rs : List (V × T)} (h : Roots Z H ((vr, .lst (ws.map hole)) :: rs)) : ∃ p, vr = .ref p ∧ H p = some (.lst ws) := by
  obtain ⟨F, _, s, ⟨_, f2, ⟨a, vs, f1, e1, e2, o1, rfl⟩, o2, rfl⟩, n, d⟩ := h
  obtain ⟨rfl, _⟩ := holes_eq o1
  exact ⟨a, e1, e2⟩
theorem Roots.close {vr : V} {ws : List V} {ts : List T} {rs : List (V × T)} (hl : ws.length = ts.length) (h : Roots Z H ((vr, .lst (ws.map hole)) :: (ws.zip ts ++ rs))) : Roots Z H ((vr, .lst ts) :: rs) := by
  obtain ⟨F, _, s, ⟨_, f2, ⟨a, vs, f1, e1, e2, o1, rfl⟩, o2, rfl⟩, n, d⟩ := h
  obtain ⟨rfl, rfl⟩ := holes_eq o1
  obtain ⟨g1, g2, p1, p2, rfl⟩ := OwnR.split o2
  exact ⟨F, [a] ++ (g1 ++ g2), s, ⟨a :: g1, g2, ⟨a, vs, g1, e1, e2, OwnR.of hl p1, rfl⟩, p2, rfl⟩, n, d⟩
theorem Roots.holeSet {p : Addr} {ws : List V} {j : Nat} {v : V} {rs : List (V × T)} (h : Roots Z H ((.ref p, .lst (ws.map hole)) :: rs)) (hj : j < ws.length) : Roots Z (upd H p (.lst (ws.set j v))) ((.ref p, .lst ((ws.set j v).map hole)) :: rs) := by
  obtain ⟨q, e, hp⟩ := h.opened
  cases e
  have h2 : Roots Z H ((.ref p, .lst (ws.map hole)) :: (v, hole v) :: rs) := (Roots.add (v := v) (d := .val v) h fun _ => rfl).perm (.swap ..)
  have h3 := Roots.setL (j := j) h2 hp (by simp) (by simpa using hj)
  rw [show (ws.map hole).set j (hole v) = (ws.set j v).map hole from List.map_set.symm] at h3
  exact h3
end
theorem perm_set' {α : Type} {l rs : List α} {j : Nat} {x y : α} (h : l[j]? = some y) : (l ++ x :: rs).Perm (l.set j x ++ y :: rs) := by
  induction l generalizing j with
  | nil => simp at h
  | cons z l ih =>
    cases j with
    | zero =>
      have e : z = y := Option.some.inj h
      subst e
      show (z :: (l ++ x :: rs)).Perm (x :: (l ++ z :: rs))
      exact (List.perm_middle.cons z).trans ((List.Perm.swap x z _).trans (List.perm_middle.symm.cons x))
    | succ j => exact (ih (j := j) h).cons z
theorem perm_swap {α : Type} {l : List α} {a b : Nat} {x y : α} (ha : l[a]? = some x) (hb : l[b]? = some y) : ((l.set a y).set b x).Perm l := by
  have h1 : (l ++ [y]).Perm (l.set a y ++ [x]) := perm_set' ha
  have hc : (l.set a y)[b]? = some y := by
    by_cases e : a = b
    · subst e; exact List.getElem?_set_self (lt_of_get ha)
    · rw [List.getElem?_set_ne e]; exact hb
  have h2 : (l.set a y ++ [x]).Perm ((l.set a y).set b x ++ [y]) := perm_set' hc
  exact ((List.perm_append_right_iff [y]).mp (h1.trans h2)).symm
section
variable {X : Cx} {G : Sg} {W : WX} {a b c d e : Expr} {fa fb fc fd : M T} {fp : M Pl} {pos : Pos}
/-! x[a], x[b] = x[b], x[a] -/
@[simp] def idx (f : M T) (env : Env) : Option (Int × Env) := match f env with
  | .ok k e => (match frz k with
    | .int n => some (n, e)
    | _ => none)
  | _ => none
theorem idx_some {f : M T} {env e : Env} {n : Int} (h : idx f env = some (n, e)) : ∃ k, f env = .ok k e ∧ frz k = .int n := by
  unfold idx at h
  split at h
  · rename_i k e1 ek
    split at h
    · rename_i m em
      cases h
      exact ⟨k, ek, em⟩
    · cases h
  · cases h
@[simp] def swapT (ts : List T) (c d a b : Int) : Option (List T) := match ixN ts.length c, ixN ts.length d, ixN ts.length a, ixN ts.length b with
    | some jc, some jd, some ja, some jb => if ja = jd ∧ jb = jc then (match ts[jc]?, ts[jd]? with
      | some x, some y => some ((ts.set ja x).set jb y)
      | _, _ => none) else none
    | _, _, _, _ => none
@[simp] def fSwap (i : Nat) (fa fb fc fd : M T) (env : Env) : RS := match env[i]? with
  | some (some (.lst ts)) => match idx fc (env.set i none) with
    | some (c, e1) => match idx fd e1 with
      | some (d, e2) => match idx fa e2 with
        | some (a, e3) => match idx fb e3 with
          | some (b, e4) => match swapT ts c d a b with
            | some us => .nx (e4.set i (some (.lst us)))
            | none => .no
          | none => .no
        | none => .no
      | none => .no
    | none => .no
  | _ => .no
theorem swapT_some {ts us : List T} {c d a b : Int} (h : swapT ts c d a b = some us) : ∃ ja jb x y, ixN ts.length c = some jb ∧ ixN ts.length d = some ja ∧ ixN ts.length a = some ja ∧ ixN ts.length b = some jb ∧
    ts[jb]? = some x ∧ ts[ja]? = some y ∧ us = (ts.set ja x).set jb y := by
  unfold swapT at h
  split at h
  · rename_i jc jd ja jb e1 e2 e3 e4
    split at h
    · rename_i hc
      obtain ⟨rfl, rfl⟩ := hc
      split at h
      · rename_i x y ex ey
        cases h
        exact ⟨ja, jb, x, y, e1, e2, e3, e4, ex, ey, rfl⟩
      · cases h
    · cases h
  · cases h
theorem dswap (i : Nat) {x : Str} {p1 p2 p3 p4 q1 q2 q3 q4 pt pt2 : Pos} {kt k2 : Nat} (hc : DE X G W c fc) (hd : DE X G W d fd) (ha : DE X G W a fa) (hb : DE X G W b fb) (hN : X.N[i]? = some x := by rfl) (hv : Vis X.env.scope x := by first | exact Or.inl rfl | exact Or.inr (Or.inl rfl) | exact Or.inr (Or.inr rfl)) (hdd : (x == ("__debug__" : Str)) = false := by decide) (hcd : (x == ("__classdict__" : Str)) = false := by decide)
    (sc : PlainIx c := by exact fun _ _ => rfl) (sd : PlainIx d := by exact fun _ _ => rfl)
    (h1 : starEach (.Subscript (.Name x p3) c q3 :: [.Subscript (.Name x p4) d q4]) X.env = (false, eval (.Subscript (.Name x p3) c q3) X.env) :: starEach [.Subscript (.Name x p4) d q4] X.env := by rfl)
    (h2 : starEach (.Subscript (.Name x p4) d q4 :: []) X.env = (false, eval (.Subscript (.Name x p4) d q4) X.env) :: starEach [] X.env := by rfl)
    (g1 : ∀ v, assign (.Subscript (.Name x p1) a q1) X.env v = (do
      let ov ← holding [v] (eval (.Name x p1) X.env)
      let iv ← holding [v, ov] (eval a X.env)
      standAt q1
      holding [v, ov, iv] (setItem ov iv v)
      release [v, ov, iv] []) := by intro _; rfl)
    (g2 : ∀ v, assign (.Subscript (.Name x p2) b q2) X.env v = (do
      let ov ← holding [v] (eval (.Name x p2) X.env)
      let iv ← holding [v, ov] (eval b X.env)
      standAt q2
      holding [v, ov, iv] (setItem ov iv v)
      release [v, ov, iv] []) := by intro _; rfl)
    (k1 : (assignEach [.Subscript (.Name x p1) a q1, .Subscript (.Name x p2) b q2] X.env).map (·.2) = assign (.Subscript (.Name x p1) a q1) X.env :: (assignEach [.Subscript (.Name x p2) b q2] X.env).map (·.2) := by rfl)
    (k3 : (assignEach [.Subscript (.Name x p2) b q2] X.env).map (·.2) = assign (.Subscript (.Name x p2) b q2) X.env :: (assignEach [] X.env).map (·.2) := by rfl)
    (k4 : (assignEach [.Subscript (.Name x p1) a q1, .Subscript (.Name x p2) b q2] X.env).length = 2 := by rfl) (k5 : (assignEach [.Subscript (.Name x p1) a q1, .Subscript (.Name x p2) b q2] X.env).findIdx? (·.1) = none := by rfl)
    (hs : swapsWithSole [.Tuple [.Subscript (.Name x p1) a q1, .Subscript (.Name x p2) b q2] kt pt] (.Tuple [.Subscript (.Name x p3) c q3, .Subscript (.Name x p4) d q4] k2 pt2) pos.line X.env = pure false := by rfl)
    (hw : swappedStores [.Tuple [.Subscript (.Name x p1) a q1, .Subscript (.Name x p2) b q2] kt pt] (.Tuple [.Subscript (.Name x p3) c q3, .Subscript (.Name x p4) d q4] k2 pt2) X.env = pure none := by rfl)
    (hz : (assignEach [.Tuple [.Subscript (.Name x p1) a q1, .Subscript (.Name x p2) b q2] kt pt] X.env).map (·.2) = [assign (.Tuple [.Subscript (.Name x p1) a q1, .Subscript (.Name x p2) b q2] kt pt) X.env] := by rfl) (hh : G.hot = false := by rfl) :
    DS X G W (.Assign [.Tuple [.Subscript (.Name x p1) a q1, .Subscript (.Name x p2) b q2] kt pt] (.Tuple [.Subscript (.Name x p3) c q3, .Subscript (.Name x p4) d q4] k2 pt2) pos) (fSwap i fa fb fc fd) := fun gd =>
  (ps_asg (pe_tup (pa_cons (pe_ix ix_seq (pe_var hN hv hdd hcd) (hc gd) sc) (pa_cons (pe_ix ix_seq (pe_var hN hv hdd hcd) (hd gd) sd) pa_nil h2) h1))
    (pg_tup (gd.calm hh) (pgs_cons (pg_sub (pe_var hN hv hdd hcd) (ha gd) set_list g1) (pgs_cons (pg_sub (pe_var hN hv hdd hcd) (hb gd) set_list g2) pgs_nil k3) k1) k4 k5) hs hw hz).imp fun D σ H ⟨env, ex, r, h⟩ => by
    unfold fSwap at h
    split at h
    · rename_i ts et
      split at h
      · rename_i c' e1 q1
        split at h
        · rename_i d' e2 q2
          split at h
          · rename_i a' e3 q3
            split at h
            · rename_i b' e4 q4
              split at h
              · rename_i us eu
                obtain ⟨ja, jb, xt, yt, j1, j2, j3, j4, t1, t2, rfl⟩ := swapT_some eu
                obtain ⟨kc, q1, z1⟩ := idx_some q1
                obtain ⟨kd, q2, z2⟩ := idx_some q2
                obtain ⟨ka, q3, z3⟩ := idx_some q3
                obtain ⟨kb, q4, z4⟩ := idx_some q4
                obtain ⟨v, ev, r1⟩ := r.take et
                obtain ⟨p, ws, rfl, hp, hl, ro⟩ := Roots.open r1.out1
                have r2 : Rel G H σ (env.set i none) (((.ref p, .lst (ws.map hole)) :: ws.zip ts) ++ ex) := r1.back (l := (.ref p, .lst (ws.map hole)) :: ws.zip ts) ro
                have lb : jb < ws.length := by rw [hl]; exact lt_of_get t1
                have la : ja < ws.length := by rw [hl]; exact lt_of_get t2
                have wb : ws[jb]? = some ws[jb] := List.getElem?_eq_getElem lb
                have wa : ws[ja]? = some ws[ja] := List.getElem?_eq_getElem la
                have int : ∀ {H : Hp} {σ : L2.St} {e : Env} {y : V} {k : T} {n : Int} {ex : List (V × T)}, Rel G H σ e ((y, k) :: ex) → frz k = .int n → y = .int n := fun r z => by
                  have w := r.freeze.out1.fz
                  rw [z] at w
                  exact w
                have hat : ∀ {H : Hp} {σ : L2.St} {e : Env} {ws : List V} {ex : List (V × T)}, Rel G H σ e ((.ref p, .lst (ws.map hole)) :: ex) → H p = some (.lst ws) := fun r => by
                  obtain ⟨q, e1, e2⟩ := r.out1.opened
                  cases e1
                  exact e2
                refine ⟨_, ev, env.set i none, _, r2, ?_⟩
                rw [q1]
                intro H1 yc rc
                have ec := int rc z1
                subst ec
                have rc := rc.drop
                refine .inl ⟨p, ws, c', ws[jb], rfl, rfl, SqL.of (hat rc), by unfold L2.atI; rw [hl, j1]; exact wb, ?_⟩
                refine ⟨_, ev, e1, _, rc, ?_⟩
                rw [q2]
                intro H2 yd rd
                have ec := int rd z2
                subst ec
                have rd := rd.drop
                refine .inl ⟨p, ws, d', ws[ja], rfl, rfl, SqL.of (hat rd), by unfold L2.atI; rw [hl, j2]; exact wa, ?_⟩
                refine ⟨by show 2 ≤ sizeLine; decide, fun q nq => ?_⟩
                have rt : Rel G (upd H2 q (.tup [ws[jb], ws[ja]])) σ e2 ((.ref q, .fz (.tup [.val ws[jb], .val ws[ja]])) :: (((.ref p, .lst (ws.map hole)) :: ws.zip ts) ++ ex)) := by
                  refine rd.back1 (Roots.newT (vs := [ws[jb], ws[ja]]) (ds := [.val ws[jb], .val ws[ja]]) rfl ?_ nq)
                  exact Roots.add (Roots.add rd.2.2 fun _ => rfl) fun _ => rfl
                refine ⟨q, [ws[jb], ws[ja]], rfl, SqT.of upd_same, rfl, ?_⟩
                have rt := rt.drop
                refine ⟨_, _, rfl, _, ev, e2, _, rt, ?_⟩
                rw [q3]
                intro H3 ya ra
                have ec := int ra z3
                subst ec
                have ra := ra.drop
                refine ⟨p, ws, a', ja, rfl, rfl, hat ra, by rw [hl]; exact j3, ?_⟩
                have ra2 : Rel G (upd H3 p (.lst (ws.set ja ws[jb]))) σ e3 (((.ref p, .lst ((ws.set ja ws[jb]).map hole)) :: ws.zip ts) ++ ex) := ra.back (l := (.ref p, .lst ((ws.set ja ws[jb]).map hole)) :: ws.zip ts) (Roots.holeSet ra.out la)
                refine ⟨_, _, rfl, _, ev, e3, _, ra2, ?_⟩
                rw [q4]
                intro H4 yb rb
                have ec := int rb z4
                subst ec
                have rb := rb.drop
                refine ⟨p, _, b', jb, rfl, rfl, hat rb, by rw [List.length_set, hl]; exact j4, rfl, h σ _ ?_⟩
                have rb2 : Rel G (upd H4 p (.lst ((ws.set ja ws[jb]).set jb ws[ja]))) σ e4 (((.ref p, .lst (((ws.set ja ws[jb]).set jb ws[ja]).map hole)) :: ws.zip ts) ++ ex) := rb.back (l := (.ref p, .lst (((ws.set ja ws[jb]).set jb ws[ja]).map hole)) :: ws.zip ts) (Roots.holeSet rb.out (by simpa using lb))
                have za : (ws.zip ts)[ja]? = some (ws[ja], yt) := by rw [List.getElem?_zip_eq_some]; exact ⟨wa, t2⟩
                have zb : (ws.zip ts)[jb]? = some (ws[jb], xt) := by rw [List.getElem?_zip_eq_some]; exact ⟨wb, t1⟩
                have pm := perm_swap za zb
                rw [← zip_set hl, ← zip_set (by simpa using hl)] at pm
                have ro3 := rb2.out
                have ro4 : Roots G.Z _ ((.ref p, .lst (((ws.set ja ws[jb]).set jb ws[ja]).map hole)) :: (((ws.set ja ws[jb]).set jb ws[ja]).zip ((ts.set ja xt).set jb yt) ++ (slots σ e4 ++ ex))) := ro3.perm ((pm.symm.append_right _).cons _)
                have ro5 := Roots.close (by simpa using hl) ro4
                exact (rb2.back1 ro5).put ev
              · exact h.elim
            · exact h.elim
          · exact h.elim
        · exact h.elim
      · exact h.elim
    · exact h.elim
end
end DL

set_option maxHeartbeats 4000000
namespace DL
open PySem PySem.Spec PyProof.Rows L2
section
variable {X : Cx} {G : Sg} {W : WX} {a b c d e : Expr} {fa fb fc fd : M T} {fp : M Pl} {pos : Pos} {bd : List Stmt} {f : MS}
/-! ### for row in rows: the rows are lent to the body one by one -/
def loopB (r : Nat) (b : MS) : List T → List T → Env → Option (List T × Env)
  | [], acc, env => some (acc, env)
  | t :: ts, acc, env => match b (env.set r (some t)) with
    | .nx e => (match e[r]? with
      | some (some t') => loopB r b ts (acc ++ [t']) (e.set r none)
      | _ => none)
    | _ => none
@[simp] def fForB (fp : M Pl) (i r : Nat) (b : MS) (env : Env) : RS := match fp env with
  | .ok p e => if p.i = i then (match p.sub with
    | .lst ts => (match loopB r b ts [] e with
      | some (us, e') => .nx (e'.set i (some (build (.lst us) p.fs)))
      | none => .no)
    | _ => .no) else .no
  | _ => .no
theorem dforB {x : Str} {iter : Expr} {px : Pos} (i r : Nat) (hp : DP X G W iter fp) (hb : ∀ s0, DSs X ⟨G.Z, r :: i :: G.io, s0, G.n, G.hot⟩ W bd f) (hi : X.N[r]? = some x := by rfl) (hx : Loc X.env.scope x := by first | exact Or.inl rfl | exact Or.inr rfl) (hn : Nat.blt r G.n = true := by rfl) (ni : (i :: G.io).contains r = false := by rfl)
    (hf : X.fn x = true ∨ X.env.scope.names.lookup x = some .local := by first | exact .inl rfl | exact .inr rfl | assumption) (hs : ∀ x, foldedSetIterable iter X.env x = pure x := by intro _; rfl) (hh : G.hot = false := by rfl) :
    DS X G W (.For (.Name x px) iter bd [] pos) (fForB fp i r f) := fun gd => by
  have hbb : PSs X bd (fun D σ H => ∃ s0, rdS ⟨G.Z, r :: i :: G.io, s0, G.n, G.hot⟩ W f D σ H) := ⟨fun pins s σ H D I ⟨s0, q⟩ => (hb s0 ⟨gd.hK, gd.tk, gd.calm, gd.nd, gd.own⟩).run pins s σ H D I q⟩
  refine (ps_for gd.own (gd.calm hh) (pi_list (hp gd)) (pg_name gd.nd hi hx hf) hbb hs).imp fun D σ0 H ⟨env0, ex, rel, h⟩ => ?_
  have hrn := lt_b hn
  have hro := io_b ni
  have hri : r ≠ i := fun z => hro (by rw [z]; exact List.mem_cons_self ..)
  have hro' : r ∉ G.io := fun z => hro (List.mem_cons_of_mem _ z)
  refine ⟨env0, ex, rel, ?_⟩
  unfold fForB at h
  cases ep : fp env0 with
  | no => rw [ep] at h; exact h.elim
  | ex x1 e1 => rw [ep] at h; exact h.elim
  | ok p e1 =>
    rw [ep] at h
    dsimp only at h
    split at h
    · rename_i hpi
      split at h
      · rename_i ts es
        intro H1 v ws hl ok ht r1
        rw [es] at r1
        rw [hpi] at ht
        obtain ⟨q, vs, ev, hp1, hlen⟩ := Roots.lst (Rel.out1 (ex := fr v p.fs ws ++ ex) r1)
        subst ev
        refine ⟨q, rfl, ⟨vs, SqL.of hp1⟩, ?_⟩
        split at h
        · rename_i us e' el
          have h : ∀ σ' H', Rel G H' σ' (e'.set i (some (build (.lst us) p.fs))) ex → D.nx σ' H' := h
          refine ⟨fun j m σ H => j ≤ ts.length ∧ m = ts.length - j ∧ σ[i]? = some (some (topV (.ref q) ws)) ∧ ∃ env acc, acc.length = j ∧ Rel G H σ env (((.ref q, .lst (acc ++ ts.drop j)) :: fr (.ref q) p.fs ws) ++ ex) ∧ loopB r f (ts.drop j) acc env = some (us, e'), ⟨_, Nat.zero_le _, rfl, ht, e1, [], rfl, r1, el⟩, ?_⟩
          rintro j m σ H ⟨hj, rfl, hσ, env, acc, hacc, r2, hlo⟩
          by_cases hlt : j < ts.length
          · rw [List.drop_eq_getElem_cons hlt] at hlo r2
            have hget : (acc ++ ts[j] :: ts.drop (j + 1))[j]? = some ts[j] := by
              rw [List.getElem?_append_right (by omega), hacc, Nat.sub_self]
              rfl
            have ro : Roots G.Z H ((.ref q, .lst (acc ++ ts[j] :: ts.drop (j + 1))) :: (fr (.ref q) p.fs ws ++ (slots σ env ++ ex))) := r2.out
            obtain ⟨w, ro2⟩ := Roots.unplug (t := ts[j]) (j := j) ro hget
            obtain ⟨q', vs', eq, hp', hlen', hw⟩ := ro2.drop.lstAt (j := j) (w := w) (List.getElem?_set_self (lt_of_get hget))
            cases eq
            refine .inr ⟨⟨vs', w, SqL.of hp', hw⟩, fun σ' H' => σ'[i]? = some (some (topV (.ref q) ws)) ∧ ∃ env acc, acc.length = j + 1 ∧ Rel G H' σ' env (((.ref q, .lst (acc ++ ts.drop (j + 1))) :: fr (.ref q) p.fs ws) ++ ex) ∧ loopB r f (ts.drop (j + 1)) acc env = some (us, e'), fun σ' H' z => ⟨ts.length - (j + 1), by omega, hlt, rfl, z⟩, ?_⟩
            rintro x1 H2 ⟨rfl, hy⟩
            have ex1 : x1 = w := by
              have := hy vs' (SqL.of hp')
              rw [hw] at this
              exact (Option.some.inj this).symm
            subst ex1
            have r3 : Rel G H2 σ env ((x1, ts[j]) :: ((.ref q, setKid (.lst (acc ++ ts[j] :: ts.drop (j + 1))) j (.fz (.val x1))) :: (fr (.ref q) p.fs ws ++ ex))) := r2.back (l := (x1, ts[j]) :: (.ref q, setKid (.lst (acc ++ ts[j] :: ts.drop (j + 1))) j (.fz (.val x1))) :: fr (.ref q) p.fs ws) ro2
            have r4 := r3.store hrn hro'
            show ∃ s0, rdS _ W f _ (σ.set r (some x1)) H2
            refine ⟨σ.set r (some x1), env.set r (some ts[j]), _, ⟨r4.1, ⟨r4.2.1.1, fun k hk => rfl⟩, r4.2.2⟩, ?_⟩
            unfold loopB at hlo
            split at hlo
            · rename_i e2 eb
              rw [eb]
              split at hlo
              · rename_i t' et
                intro σ2 H3 r5
                have hst : σ2[r]? = some (some x1) := by
                  have := r5.2.1.2 r (List.mem_cons_self ..)
                  rw [this]
                  exact List.getElem?_set_self (by rw [r3.1.1, r3.2.1.1]; exact hrn)
                have hsi : σ2[i]? = some (some (topV (.ref q) ws)) := by
                  have := r5.2.1.2 i (List.mem_cons_of_mem _ (List.mem_cons_self ..))
                  rw [this]
                  show (σ.set r (some x1))[i]? = _
                  rw [List.getElem?_set_ne hri]
                  exact hσ
                have r6 : Rel G H3 σ2 e2 ((.ref q, setKid (.lst (acc ++ ts[j] :: ts.drop (j + 1))) j (.fz (.val x1))) :: (fr (.ref q) p.fs ws ++ ex)) := ⟨r5.1, ⟨r5.2.1.1, fun k hk => by
                  have := r5.2.1.2 k (List.mem_cons_of_mem _ (List.mem_cons_of_mem _ hk))
                  rw [this]
                  show (σ.set r (some x1))[k]? = _
                  rw [List.getElem?_set_ne (fun z => hro' (by rw [z]; exact hk))]
                  exact r2.2.1.2 k hk⟩, r5.2.2⟩
                obtain ⟨w', ew, r7⟩ := r6.take et
                rw [hst] at ew
                cases ew
                have ro7 : Roots G.Z H3 ((x1, t') :: (.ref q, setKid (.lst (acc ++ ts[j] :: ts.drop (j + 1))) j (.fz (.val x1))) :: (fr (.ref q) p.fs ws ++ (slots σ2 (e2.set r none) ++ ex))) := Rel.out (l := (x1, t') :: (.ref q, setKid (.lst (acc ++ ts[j] :: ts.drop (j + 1))) j (.fz (.val x1))) :: fr (.ref q) p.fs ws) r7
                have ro8 := Roots.plug ro7 (chd_set (u := ts[j]) hget)
                rw [setKid_set] at ro8
                have e8 : setKid (.lst (acc ++ ts[j] :: ts.drop (j + 1))) j t' = .lst ((acc ++ [t']) ++ ts.drop (j + 1)) := by
                  show T.lst ((acc ++ ts[j] :: ts.drop (j + 1)).set j t') = _
                  rw [List.set_append_right _ _ (by omega), hacc, Nat.sub_self, List.append_assoc]
                  rfl
                rw [e8] at ro8
                exact ⟨hsi, e2.set r none, acc ++ [t'], by simp [hacc], r7.back (l := (.ref q, .lst ((acc ++ [t']) ++ ts.drop (j + 1))) :: fr (.ref q) p.fs ws) ro8, hlo⟩
              · cases hlo
            · cases hlo
          · have ej : j = ts.length := by omega
            subst ej
            rw [List.drop_length] at hlo r2
            unfold loopB at hlo
            cases hlo
            rw [List.append_nil] at r2
            obtain ⟨q', vs', eq, hp', hlen'⟩ := Roots.lst (Rel.out1 (ex := fr (.ref q) p.fs ws ++ ex) r2)
            cases eq
            exact .inl ⟨⟨vs', SqL.of hp', by omega⟩, h σ H (r2.unfocus hl ok hσ)⟩
        · exact h.elim
      · exact h.elim
    · exact h.elim
/-! ### append, pop at a place -/
@[simp] def plApp (p : Pl) (t : T) (e : Env) : R T := match p.sub with
  | .lst ts => if ts.length < sizeLine then .ok (.fz .non) (e.set p.i (some (build (.lst (ts ++ [t])) p.fs))) else .no
  | _ => .no
@[simp] def isLst : T → Bool
  | .lst _ => true
  | _ => false
@[simp] def fPlApp (fp : M Pl) (fa : M T) (env : Env) : R T := (fp env).bind fun p e => if isLst p.sub = true then (fa e).bind fun t e2 => plApp p t e2 else .no
theorem dplApp {o : Expr} {apos : Pos} (hp : DP X G W o fp) (ha : DE X G W a fa) (hsa : starEach [a] X.env = (false, eval a X.env) :: starEach [] X.env := by rfl) (hbase : attributeBase o "append" X.env (eval o X.env) = eval o X.env := by rfl)
    (hfew : ((backTo pos (starEach [a] X.env)).all (fun x => !x.1) && (backToKw pos (keywordEach [] X.env)).all (fun x => x.1.isSome)
      && decide ([a].length + ([] : List Keyword).length + (if ([] : List Keyword).isEmpty then 0 else 1) < 30)) = true := by rfl)
    (hline : (apos.endLine == pos.line) = true := by rfl) :
    DE X G W (.Call (.Attribute o "append" apos) [a] [] pos) (fPlApp fp fa) := fun gd =>
  (pe_bm PySem.F.plainAttrs_list PySem.F.slot_list_append PySem.F.type_list_append mt_append (hp gd) (pa_cons (ha gd) pa_nil hsa) hbase hfew hline hsa).imp fun σ H Q ⟨env, ex, r, h⟩ => by
    refine ⟨env, ex, r, aft_more (l := []) (aft_bind h) fun p e h1 H1 v ws hl ok ht r1 => ?_⟩
    split at h1
    · rename_i hi
      unfold isLst at hi
      split at hi
      · rename_i ts es
        rw [es] at r1
        obtain ⟨q, vs, ev, hp1, hlen⟩ := Roots.lst (Rel.out1 (ex := fr v p.fs ws ++ ex) r1)
        subst ev
        refine ⟨.inl ⟨rfl, vs, SqL.of hp1⟩, e, _, r1, aft_more (aft_bind h1) fun t e2 h2 H2 y r2 => ?_⟩
        unfold plApp at h2
        rw [es] at h2
        dsimp only at h2
        split at h2
        · rename_i hz
          have r3 : Rel G H2 σ e2 (((.ref q, .lst ts) :: (y, t) :: fr (.ref q) p.fs ws) ++ ex) := r2.perm (.swap ..)
          obtain ⟨q', ws', eq, hp2, hl2⟩ := r3.out1.lst
          cases eq
          refine ⟨q, ws', y, rfl, rfl, hp2, by rw [hl2]; exact hz, h2 _ _ ?_⟩
          have ro := Roots.appL (v := y) (t := t) (rs := fr (.ref q) p.fs ws ++ (slots σ e2 ++ ex)) r3.out hp2 hl2
          have r4 := r3.back (l := (.ref q, .lst (ts ++ [t])) :: fr (.ref q) p.fs ws) (ex := ex) ro
          have r5 := r4.unfocus hl ok ht
          exact r5.back1 (Roots.add r5.2.2 fun _ => rfl)
        · exact h2.elim
      · cases hi
    · exact h1.elim
@[simp] def plPop (p : Pl) (e : Env) : R T := match p.sub with
  | .lst ts => match ts[ts.length - 1]? with
    | some t => .ok t (e.set p.i (some (build (.lst ts.dropLast) p.fs)))
    | none => .no
  | _ => .no
@[simp] def fPlPop (fp : M Pl) (env : Env) : R T := (fp env).bind fun p e => plPop p e
theorem dplPop {o : Expr} {apos : Pos} (hp : DP X G W o fp) (hbase : attributeBase o "pop" X.env (eval o X.env) = eval o X.env := by rfl)
    (hline : (apos.endLine == pos.line) = true := by rfl) :
    DE X G W (.Call (.Attribute o "pop" apos) [] [] pos) (fPlPop fp) := fun gd =>
  (pe_bm0 PySem.F.plainAttrs_list PySem.F.slot_list_pop PySem.F.type_list_pop mt_pop (hp gd) hbase hline).imp fun σ H Q ⟨env, ex, r, h⟩ => by
    refine ⟨env, ex, r, aft_more (l := []) (aft_bind h) fun p e h1 H1 v ws hl ok ht r1 => ?_⟩
    unfold plPop at h1
    split at h1
    · rename_i ts es
      rw [es] at r1
      split at h1
      · rename_i t et
        obtain ⟨q, vs, ev, hp1, hlen⟩ := Roots.lst (Rel.out1 (ex := fr v p.fs ws ++ ex) r1)
        subst ev
        have hne : ts ≠ [] := fun z => by rw [z] at et; simp at et
        have hnv : vs ≠ [] := fun z => by rw [z] at hlen; exact hne (List.length_eq_zero_iff.mp hlen.symm)
        have tl : ts.getLast hne = t := by
          rw [List.getLast_eq_getElem]
          have := List.getElem?_eq_some_iff.mp et
          exact this.2
        refine ⟨.inl ⟨rfl, vs, SqL.of hp1⟩, q, vs, vs.getLast hnv, rfl, rfl, hp1, ?_, h1 _ _ ?_⟩
        · rw [List.getLast_eq_getElem]
          exact List.getElem?_eq_getElem _
        · have pm : (vs.zip ts ++ (fr (V.ref q) p.fs ws ++ (slots σ e ++ ex))).Perm (vs.dropLast.zip ts.dropLast ++ ((vs.getLast hnv, t) :: (fr (V.ref q) p.fs ws ++ (slots σ e ++ ex)))) := by
            have ez : vs.zip ts = vs.dropLast.zip ts.dropLast ++ [(vs.getLast hnv, t)] := by
              conv => lhs; rw [← List.dropLast_concat_getLast hnv, ← List.dropLast_concat_getLast hne]
              rw [List.zip_append (by simp [hlen]), tl]
              rfl
            rw [ez, List.append_assoc]
            exact .refl _
          have ro : Roots G.Z H1 ((.ref q, .lst ts) :: (fr (V.ref q) p.fs ws ++ (slots σ e ++ ex))) := r1.out
          have ro2 := Roots.putL ro hp1 (vs := vs.dropLast) (ts := ts.dropLast) (by simp [hlen]) pm
          have r2 : Rel G (upd H1 q (.lst vs.dropLast)) σ e (((.ref q, .lst ts.dropLast) :: fr (V.ref q) p.fs ws) ++ ((vs.getLast hnv, t) :: ex)) := by
            have r2 := r1.back (l := (.ref q, .lst ts.dropLast) :: (vs.getLast hnv, t) :: fr (V.ref q) p.fs ws) (ex := ex) ro2
            exact r2.perm ((List.perm_middle (l₁ := fr (V.ref q) p.fs ws)).symm.cons _)
          exact r2.unfocus hl ok ht
      · exact h1.elim
    · exact h1.elim
end
end DL

set_option maxHeartbeats 4000000
namespace ZN
open PySem PySem.Spec PyProof.Rows L2
/-- zip of lists and tuples, item by item, for a target that is a tuple -/
def ItN (K : PySem.W.Frag) (ls : List (Addr × Bool)) : It :=
  ⟨fun i H => ∃ n rows, SqNs K H n ls rows ∧ i < n,
    fun i H v H' => ∃ T ys, v = .ref T ∧ H T = none ∧ H' = upd H T (.tup ys) ∧ ∀ n rows, SqNs K H n ls rows → ys = col i rows,
    fun i H => ∃ n rows, SqNs K H n ls rows ∧ n ≤ i⟩
section
variable {X : Cx} {pins : List (Addr × Obj)} {σ : L2.St} {H : Hp} {s : Shared}
theorem sqn_inj {l : Addr × Bool} {xs ys : List V} (I : Inv X pins σ H s) (h : SqN X.K H l xs) (h' : SqN X.K H l ys) : xs = ys := by
  unfold SqN at h h'
  cases c : l.2 <;> simp only [c, Bool.false_eq_true, if_true, if_false] at h h'
  · exact I.list_inj h h'
  · exact I.tuple_inj h h'
theorem sqns_inj {n m : Nat} (I : Inv X pins σ H s) : ∀ {ls : List (Addr × Bool)} {rows rows' : List (List V)}, SqNs X.K H n ls rows → SqNs X.K H m ls rows' → rows = rows'
  | [], [], [], _, _ => rfl
  | [], [], _ :: _, _, h => h.elim
  | [], _ :: _, _, h, _ => h.elim
  | _ :: _, [], _, h, _ => h.elim
  | _ :: _, _ :: _, [], _, h => h.elim
  | l :: ls, xs :: xss, ys :: yss, ⟨a, _, b⟩, ⟨a', _, b'⟩ => by
    rw [sqn_inj I a a', sqns_inj I b b']
end
def Free (h : Heap) (z TI TO : Addr) (zs : List Zi) (k : Nat) : Prop := TupAt h TI (zs.map fun p => .ref p.it) ∧ (∀ p ∈ zs, ItI h k p) ∧ IsZip h z TI TO .none ∧ ∃ tl : List Value, TupAt h TO tl ∧ tl.length = zs.length
theorem ItI.there {h : Heap} {k : Nat} {p : Zi} (q : ItI h k p) : ∃ o, h.get? p.it = some o ∧ ∀ v, o.data ≠ .cell v := by
  unfold ItI at q
  split at q
  · obtain ⟨o, e, _, d⟩ := q
    exact ⟨o, e, fun v z => by rw [d] at z; cases z⟩
  · obtain ⟨o, e, _, d⟩ := q
    exact ⟨o, e, fun v z => by rw [d] at z; cases z⟩
theorem turn_zipN {P : Program} {w : World} {K : PySem.W.Frag} {elts : List Expr} {kk : Nat} {tpos : Pos} {z TI TO : Addr} {zs : List Zi} (D : Apart z TI TO zs) (hn : zs ≠ []) (hzl : zs.length ≤ sizeLine) :
    Turn P w K (.Tuple elts kk tpos) (ItN K (zs.map fun p => (p.l, p.tp))) (TI :: z :: TO :: zs.map (·.it)) z (fun i h => Free h z TI TO zs i) where
  mem := by simp
  obj := fun i h st c hc => by
    obtain ⟨hTI, hit, hz, tl, hTO, _⟩ := st
    rcases List.mem_cons.mp hc with q | hc
    · rw [q]; exact ⟨_, hTI, fun v q => nomatch q⟩
    rcases List.mem_cons.mp hc with q | hc
    · rw [q]; exact ⟨_, hz, fun v q => nomatch q⟩
    rcases List.mem_cons.mp hc with q | hc
    · rw [q]; exact ⟨_, hTO, fun v q => nomatch q⟩
    obtain ⟨p, hp, rfl⟩ := List.mem_map.mp hc
    exact (hit p hp).there
  keep := fun i h h' st k => by
    obtain ⟨hTI, hit, hz, tl, hTO, e⟩ := st
    refine ⟨k TI (by simp) _ hTI, fun p hp => (hit p hp).at fun o x => k p.it (List.mem_cons_of_mem _ (List.mem_cons_of_mem _ (List.mem_cons_of_mem _ (List.mem_map_of_mem hp)))) o x, k z (by simp) _ hz, tl, k TO (by simp) _ hTO, e⟩
  item := by
    intro X hP hw hK hc i pins s σ H E I hf st hg
    subst hP hw hK
    obtain ⟨hTI, hit, hz, tl, hTO, htl⟩ := st
    obtain ⟨n, rows, hs, hin⟩ := hg
    obtain ⟨ys, v, l, qs⟩ := sqns_items I hin hs
    have m1 : (zs.zip ys).map (·.1) = zs := List.map_fst_zip (Nat.le_of_eq l.symm)
    have m2 : (zs.zip ys).map (·.2) = ys := List.map_snd_zip (Nat.le_of_eq l)
    have m3 : ((zs.zip ys).map fun p => Value.ref p.1.it) = zs.map fun p => .ref p.it := by
      rw [show (fun p : Zi × Value => Value.ref p.1.it) = (fun p : Zi => Value.ref p.it) ∘ Prod.fst from rfl, ← List.map_map, m1]
    have hn' : zs.zip ys ≠ [] := fun e => hn (by rw [← m1, e]; rfl)
    have hi' : ∀ p ∈ zs.zip ys, ItI s.heap i p.1 ∧ ∃ xs, SqC s.heap p.1 xs ∧ xs[i]? = some p.2 := fun p hp => ⟨hit _ (List.of_mem_zip hp).1, qs p hp⟩
    have hTI' : TupAt s.heap TI ((zs.zip ys).map fun p => .ref p.1.it) := by rw [m3]; exact hTI
    have D' : Apart z TI TO ((zs.zip ys).map (·.1)) := by rw [m1]; exact D
    have ty : s.TypeIs (.ref z) "zip" := ⟨_, hz, rfl⟩
    have hzlt : z < s.heap.objs.size := Heap.lt_size hz
    unfold pyNext
    refine wpAny_bind (wpAny_attempt (wpAny_callSpecial?_slot (name := Str.ofString "__next__") ty F.slot_zip_next (wpAny_call_entry F.slot_zip_next ty F.entry_zip_next ?_ (F.args_zip_next_1 _))))
    refine step_free D' hn' (by rw [List.length_zip, l, Nat.min_self]; exact hzl) hz hTI' hTO (by rw [List.length_zip, l, Nat.min_self]; exact htl) hi' fun h' a1 a2 a3 a4 a5 a6 => wpAny_pure ?_
    rw [m1] at a5
    rw [m2] at a3
    refine ⟨_, rfl, wpAny_letOwnedTupleGo_zip (s := { s with heap := h' }) a1 fun h'' z'' sb => ?_⟩
    have a2' : ∀ p ∈ zs, ItI h' (i + 1) p := fun p hp => by
      rw [← m1] at hp
      obtain ⟨q, hq, rfl⟩ := List.mem_map.mp hp
      exact a2 q hq
    have fr : H s.heap.objs.size = none := I.hok.fresh (Nat.le_refl _)
    have hT2 : TupAt h'' s.heap.objs.size ys := (sb.2 _ (Nat.ne_of_gt hzlt)).trans a3
    have new : ObjOk X.prog X.w (upd H s.heap.objs.size (.tup (col i rows))) h'' s.heap.objs.size (.tup (col i rows)) :=
      ⟨by have := v.length; omega, ys, v, ⟨_, hT2, rfl, _, rfl⟩⟩
    have nd := D.nd
    have I1 : Inv X pins σ (upd H s.heap.objs.size (.tup (col i rows))) { s with heap := h'' } :=
      I.turnedNew (t' := s.toks) (ch := z :: TO :: zs.map (·.it)) (fun c o hb q => (sb.2 c (fun q' => hb (by simp [q']))).trans (a5 c o hb q)) (fun b hb => hf b (List.mem_cons_of_mem _ hb)) (Nat.le_refl _) new
    have itz : ∀ p ∈ zs, p.it ≠ z := fun p hp e => by
      have := (List.nodup_cons.mp nd).1
      exact this (List.mem_cons_of_mem _ (by rw [← e]; exact List.mem_map_of_mem hp))
    have TOz : TO ≠ z := fun e => (List.nodup_cons.mp nd).1 (by rw [← e]; exact List.mem_cons_self ..)
    have TIz : TI ≠ z := fun e => D.ti (by rw [e]; exact List.mem_cons_self ..)
    refine ⟨.ref s.heap.objs.size, _, I1, rfl, ⟨_, col i rows, rfl, fr, rfl, fun m rows' hs' => by rw [sqns_inj I hs hs']⟩, ⟨?_, ?_, z'', ?_⟩, fun c hcm => ?_⟩
    · exact (sb.2 _ TIz).trans (a5 _ _ D.ti hTI)
    · exact fun p hp => (a2' p hp).at fun o q => (sb.2 _ (itz p hp)).trans q
    · exact ⟨_, (sb.2 _ TOz).trans a6, by rw [m2]; exact l⟩
    · have hlt : c < s.heap.objs.size := by
        rcases List.mem_cons.mp hcm with q | hcm
        · rw [q]; exact Heap.lt_size hTI
        rcases List.mem_cons.mp hcm with q | hcm
        · rw [q]; exact hzlt
        rcases List.mem_cons.mp hcm with q | hcm
        · rw [q]; exact Heap.lt_size hTO
        obtain ⟨p, hp, rfl⟩ := List.mem_map.mp hcm
        obtain ⟨o, e, _⟩ := (hit p hp).there
        exact Heap.lt_size e
      rw [upd_ne (Nat.ne_of_lt hlt)]
      exact (hf c hcm).1
  done := by
    intro X hP hw hK hc i pins s σ H E I hf st hg
    subst hP hw hK
    obtain ⟨hTI, hit, hz, tl, hTO, htl⟩ := st
    obtain ⟨n, rows, hs, hin⟩ := hg
    cases zs with
    | nil => exact absurd rfl hn
    | cons p zs =>
      cases rows with
      | nil => exact hs.elim
      | cons xs rows =>
        obtain ⟨its, r, c⟩ := sqn_at I hs.1
        have hx : its.toArray[i]? = none := by
          have := r.length
          have h2 := hs.2.1
          simp only [List.getElem?_toArray]
          exact List.getElem?_eq_none (by omega)
        exact pyNext_end (I.ok.hd hc) D ⟨hTI, hit, .inl ⟨hz, tl, hTO, htl⟩⟩ c hx fun h' hk => ⟨rfl, I.turnedL (t' := s.toks) (ch := z :: TO :: (p :: zs).map (·.it)) hk fun b hb' => hf b (List.mem_cons_of_mem _ hb')⟩
  self := fun A i s Q E st h => wpAny_pyIter_zip st.2.2.1 h
/-- zip(e, ..) as what is walked -/
def iZipN (K : PySem.W.Frag) (ta : TA) : TI := fun σ H R => ta σ H fun vs H1 => ∃ ls rows n, vs = ls.map (fun l : Addr × Bool => V.ref l.1) ∧ ls ≠ [] ∧ ls.length ≤ sizeLine ∧ SqNs K H1 n ls rows ∧ R (ItN K ls) H1
theorem pi_zipN {X : Cx} {e : Expr} {es : List Expr} {ta : TA} {p pos tpos : Pos} {elts : List Expr} {kk : Nat} (hg : Gl X "zip") (hm : X.mg "zip" = none) (ha : PA X (e :: es) ta)
    (hs : starEach (e :: es) X.env = (false, eval e X.env) :: starEach es X.env := by rfl) (hpl : (backTo pos (starEach es X.env)).any (·.1) = false := by rfl) :
    PI X (.Tuple elts kk tpos) (.Call (.Name "zip" p) (e :: es) [] pos) (iZipN X.K ta) := by
  refine ⟨fun pins s σ H R I h => ?_⟩
  refine Call_ (ld_blt I hg hm PyProof.Rows.boot_zip (PyProof.Rows.callWith_type1 (thn (ha.run pos pins s σ H _ I h) fun us s1 ⟨vs, H1, I1, r1, q1⟩ => ?_) hs hpl))
  obtain ⟨ls, rows, n, rfl, hn, hl, hsq, hR⟩ := q1
  rw [vals_refs r1]
  refine call_zip hn hl (sqns_at I1 hsq) fun h' z TI TO zs hls D st hz hin hk => ?_
  have zl : zs.length = ls.length := by rw [← hls, List.length_map]
  have I2 : Inv X pins σ H1 { s1 with heap := h' } := I1.kept (t' := s1.toks) hk
  refine wpAny_pyIter_zip hz ?_
  subst hls
  obtain ⟨a1, a2, a3⟩ := st
  have a3 : IsZip h' z TI TO .none ∧ ∃ tl : List Value, TupAt h' TO tl ∧ tl.length = zs.length := by
    rcases a3 with a3 | ⟨T, f, oT, b1, _⟩
    · exact a3
    · have b1 : h'.get? z = _ := b1
      have hz : h'.get? z = _ := hz
      rw [hz] at b1
      cases f <;> cases b1
  exact ⟨z, TI :: z :: TO :: zs.map (·.it), _, _, H1, rfl, I2, turn_zipN D (fun e => hn (by rw [e]; rfl)) (by rw [zl]; exact hl), ⟨a1, a2, a3⟩, fun b hb => I1.fpOk (hin b hb).1 (I1.hok.fresh (hin b hb).1), hR⟩
end ZN

set_option maxHeartbeats 4000000
namespace DL
open PySem PySem.Spec PyProof.Rows L2
@[simp] def zipND (ds : List D) : Option (List D) := match rowsD ds with
  | some (r :: rs) => if allLen r.length (r :: rs) = true ∧ (r :: rs).length ≤ sizeLine then some ((List.range r.length).map fun i => .tup (colD i (r :: rs))) else none
  | _ => none
section
variable {Z : Wd} {F H : Hp}
theorem zip_rows {vs : List V} {ds : List D} {rs : List (V × T)} {r : List D} {rs' : List (List D)} (hl : vs.length = ds.length) (er : rowsD ds = some (r :: rs')) (hal : allLen r.length (r :: rs') = true) (ro : Roots Z H (vs.zip (ds.map T.fz) ++ rs)) :
    vs = (lsOf vs ds).map (fun l => V.ref l.1) ∧ ∃ rows, ZN.SqNs Z.K H r.length (lsOf vs ds) rows ∧
      ∀ i, i < r.length → (ZN.col i rows).length = (colD i (r :: rs')).length ∧ Roots Z H ((ZN.col i rows).zip ((colD i (r :: rs')).map T.fz) ++ (vs.zip (ds.map T.fz) ++ rs)) := by
  obtain ⟨F, fp, s, o, nd, dj⟩ := ro
  obtain ⟨f3, f4, o3, o4, rfl⟩ := o.split
  obtain ⟨rp, rfl⟩ := own_rps hl o3
  obtain ⟨q1, rows, q2, q3⟩ := rows_at rp er hal
  exact ⟨q1, rows, sqns_same s q2, fun i hi => ⟨(q3 i hi).length, F, _, s, (rps_own (q3 i hi)).append o, nd, dj⟩⟩
theorem dwalk_zipN {vs : List V} {ds : List D} {r : List D} {rs' : List (List D)} (hl : vs.length = ds.length) (er : rowsD ds = some (r :: rs')) (hal : allLen r.length (r :: rs') = true) :
    DWalk Z (ZN.ItN Z.K (lsOf vs ds)) (vs.zip (ds.map T.fz)) ((List.range r.length).map fun i => .tup (colD i (r :: rs'))) where
  go := fun i H rs hi ro => by
    obtain ⟨_, rows, h1, _⟩ := zip_rows hl er hal ro
    exact ⟨_, rows, h1, by simpa using hi⟩
  stop := fun H rs ro => by
    obtain ⟨_, rows, h1, _⟩ := zip_rows hl er hal ro
    exact ⟨_, rows, h1, by simp⟩
  yld := fun i H H' x rs d hd ro y => by
    obtain ⟨T', ys, rfl, nT, rfl, hy⟩ := y
    obtain ⟨_, rows, h1, h2⟩ := zip_rows hl er hal ro
    have hi : i < r.length := by
      have := lt_of_get hd
      simpa using this
    rw [List.getElem?_map, List.getElem?_range hi] at hd
    cases hd
    rw [hy _ rows h1]
    obtain ⟨c1, c2⟩ := h2 i hi
    exact Roots.newT c1 c2 nT
end
section
variable {X : Cx} {G : Sg} {W : WX} {p pos tpos : Pos} {e : Expr} {es elts : List Expr} {kk : Nat} {src : List (Option Nat)} {fs : M (List T)}
theorem di_zipN (hm : X.mg "zip" = none) (ha : DA X G W (e :: es) src fs) (hg : Gl X "zip" := by rfl) (hs : starEach (e :: es) X.env = (false, eval e X.env) :: starEach es X.env := by rfl) (hpl : (backTo pos (starEach es X.env)).any (·.1) = false := by rfl) :
    DI X G W (.Tuple elts kk tpos) (.Call (.Name "zip" p) (e :: es) [] pos) (iArgs zipND fs) := fun gd =>
  (ZN.pi_zipN hg hm (ha gd) hs hpl).imp fun σ H R ⟨env, ex, r, h⟩ => ⟨env, ex, r, aft_more (l := []) (aft_bind h) fun ts e p H2 vs hl hs hsrc r2 => by
    unfold zipND at p
    split at p
    · rename_i r0 rs0 er
      split at p
      · rename_i hc
        have ro := Roots.freezes r2.out
        have hl2 : vs.length = (frzs ts).length := by rw [hl, frzs_len]
        obtain ⟨q1, rows, q2, _⟩ := zip_rows hl2 er hc.1 ro
        have dl := rowsD_len er
        have r3 : Rel G H2 σ e (vs.zip ((frzs ts).map T.fz) ++ ex) := r2.back (l := vs.zip ((frzs ts).map T.fz)) ro
        rw [← gd.hK]
        refine ⟨lsOf vs (frzs ts), rows, r0.length, q1, fun e0 => ?_, ?_, q2, p H2 _ _ (dwalk_zipN hl2 er hc.1) r3⟩
        · have := lsOf_len hl2
          rw [e0] at this
          rw [← dl] at hl2
          simp at this hl2
          omega
        · rw [lsOf_len hl2, hl2, ← dl]; exact hc.2
      · exact p.elim
    · exact p.elim⟩
end
theorem zipN2 {d1 d2 : D} {xs ys : List D} (h1 : rowD d1 = some xs) (h2 : rowD d2 = some ys) (hl : xs.length = ys.length) : zipND [d1, d2] = some (pairD xs ys) := by
  have al : allLen xs.length [xs, ys] = true := by simp [allLen, hl]
  simp only [zipND, rowsD, h1, h2, al]
  rw [if_pos ⟨trivial, by show 2 ≤ sizeLine; decide⟩]
  congr 1
  apply List.ext_getElem?
  intro i
  unfold pairD
  rw [List.getElem?_map, List.getElem?_zipWith]
  by_cases hi : i < xs.length
  · rw [List.getElem?_range hi, List.getElem?_eq_getElem hi, List.getElem?_eq_getElem (hl ▸ hi)]
    simp [colD, List.getD_eq_getElem?_getD, List.getElem?_eq_getElem hi, List.getElem?_eq_getElem (hl ▸ hi)]
  · rw [List.getElem?_eq_none (by simpa using hi), List.getElem?_eq_none (by omega)]
    rfl
end DL

set_option maxHeartbeats 4000000
namespace DL
open PySem L2
/-! ### matrices: the program's and the laws' functions -/
def b__law_shape : MS := fRet (fLst (fCons (fBin gAdd2 (fC (.int 1)) (fCall m__law_take [0] [some 0, none] (fMove 0 (fCons (fC (.int 4)) (fNil))))) (fCons (fBin gAdd2 (fC (.int 1)) (fCall m__law_take [0] [some 0, none] (fMove 0 (fCons (fC (.int 4)) (fNil))))) (fNil))))
def m__law_shape : Mir := mirOf 1 [0] b__law_shape

def b__law_matrix_e0 : M T := fBin gSub (fCall m__law_take [0] [some 0, none] (fMove 0 (fCons (fC (.int 7)) (fNil)))) (fC (.int 3))
def b__law_matrix_e1 : M T := fLc (iArgs range1D (fCons (fVar 2) (fNil))) (sName 8) (fYes) b__law_matrix_e0 [8]
def b__law_matrix_e2 : M T := fBin gAdd2 (fVar 9) (fBin gIx (fBin gIx (fVar 3) (fC (.int 0))) (fVar 8))
def b__law_matrix_e3 : M T := fBin gMul (fVar 5) (fVar 9)
def b__law_matrix_e4 : M T := fBin gMul (fVar 5) (fVar 9)
def b__law_matrix_e5 : M T := fLc (iSeq (fVar 6)) (sName 9) (fYes) b__law_matrix_e4 [9]
def b__law_matrix_f0 : MS := fAsg (fBin gAdd2 (fPeek 6 (fC (.int 0))) (fBin gMul (fC (.int 2)) (fPeek 6 (fUn gNeg (fC (.int 1)))))) (sPut 6 (fUn gNeg (fC (.int 1))))
def b__law_matrix : MS := fSeq (fSet 3 (fLc (iArgs range1D (fCons (fVar 1) (fNil))) (sName 7) (fYes) b__law_matrix_e1 [7])) (fSeq (fSet 4 (fCall m__law_take [0] [some 0, none] (fMove 0 (fCons (fC (.int 6)) (fNil))))) (fSeq (fIfS (fAnd (fTestB (fBin (gEq2 false) (fVar 4) (fC (.int 0)))) (fTestB (fBin gGt (fVar 1) (fC (.int 1))))) (fAsg (fRo (fLc (iArgs enumD (fCons (fBin gIx (fVar 3) (fBin gFdiv (fBin gSub (fVar 1) (fC (.int 1))) (fC (.int 2)))) (fNil))) (sTup (sCons (sName 8) (sCons (sName 9) (sNil)))) (fYes) b__law_matrix_e2 [8, 9])) (sPut 3 (fUn gNeg (fC (.int 1))))) (fNext)) (fSeq (fIfS (fTestB (fBin (gEq2 false) (fVar 4) (fC (.int 1)))) (fSeq (fSet 5 (fBin gIx (fLst (fCons (fC (.int 2)) (fCons (fC (.int 3)) (fCons (fC (.int 6)) (fCons (fC (.int 5)) (fCons (fC (.int 4)) (fNil))))))) (fCall m__law_take [0] [some 0, none] (fMove 0 (fCons (fC (.int 5)) (fNil)))))) (fAsg (fRo (fLc (iSeq (fBin gIx (fVar 3) (fC (.int 0)))) (sName 9) (fYes) b__law_matrix_e3 [9])) (sPut 3 (fC (.int 0))))) (fNext)) (fSeq (fIfS (fTestB (fBin (gEq2 false) (fVar 4) (fC (.int 2)))) (fSeq (fSet 5 (fBin gIx (fLst (fCons (fC (.int 2)) (fCons (fC (.int 3)) (fCons (fC (.int 6)) (fNil))))) (fCall m__law_take [0] [some 0, none] (fMove 0 (fCons (fC (.int 3)) (fNil)))))) (fSet 3 (fRo (fLc (iSeq (fVar 3)) (sName 6) (fYes) b__law_matrix_e5 [6])))) (fNext)) (fSeq (fIfS (fTestB (fBin (gEq2 false) (fVar 4) (fC (.int 3)))) (fForB (fPl 3) 3 6 b__law_matrix_f0) (fNext)) (fRetM 3))))))
def m__law_matrix : Mir := mirOf 10 [0] b__law_matrix

def b_Matrix___init___e0 : M T := fCB (g1 gTuple) (fCons (fVar 3) (fNil))
def b_Matrix___init___f0 : MS := fIfS (fTestB (fBin (gEq2 true) (fCB (g1 gLen) (fCons (fVar 3) (fNil))) (fPeekF 0 22 "width"))) (fRaise 3 ["at"] (fCons (fVar 2) (fNil))) (fNext)
def b_Matrix___init__ : MS := fSeq (fSetF 0 22 "rows" (fCB (g1 gTuple) (fCons (fLc (iSeq (fVar 1)) (sName 3) (fYes) b_Matrix___init___e0 [3]) (fNil)))) (fSeq (fSetF 0 22 "height" (fCB (g1 gLen) (fCons (fPeekF 0 22 "rows") (fNil)))) (fSeq (fSetF 0 22 "width" (fCB (g1 gLen) (fCons (fBin gIx (fPeekF 0 22 "rows") (fC (.int 0))) (fNil)))) (fFor (iArgs enumD (fCons (fPeekF 0 22 "rows") (fNil))) (sTup (sCons (sName 2) (sCons (sName 3) (sNil)))) b_Matrix___init___f0)))
def m_Matrix___init__ : Mir := mirOf 4 [0] b_Matrix___init__

def b_sum_rows_e0 : M T := fBin gAdd2 (fVar 6) (fBin gMul (fVar 2) (fVar 7))
def b_sum_rows_f0 : MS := fExpr (fAppend 3 (fLc (iArgs zipD (fCons (fVar 4) (fCons (fVar 5) (fNil)))) (sTup (sCons (sName 6) (sCons (sName 7) (sNil)))) (fYes) b_sum_rows_e0 [6, 7]))
def b_sum_rows : MS := fSeq (fIfS (fOr (fTestB (fBin (gEq2 true) (fPeekF 0 22 "height") (fPeekF 1 22 "height"))) (fTestB (fBin (gEq2 true) (fPeekF 0 22 "width") (fPeekF 1 22 "width")))) (fRaise 4 ["first", "second"] (fCons (fTup (fCons (fPeekF 0 22 "height") (fCons (fPeekF 0 22 "width") (fNil)))) (fCons (fTup (fCons (fPeekF 1 22 "height") (fCons (fPeekF 1 22 "width") (fNil)))) (fNil)))) (fNext)) (fSeq (fSet 3 (fLst (fNil))) (fSeq (fFor (iArgs zipD (fCons (fPeekF 0 22 "rows") (fCons (fPeekF 1 22 "rows") (fNil)))) (sTup (sCons (sName 4) (sCons (sName 5) (sNil)))) b_sum_rows_f0) (fRet (fVar 3))))
def m_sum_rows : Mir := mirOf 8 [] b_sum_rows

def b_Matrix___add__ : MS := fRet (fMake 22 m_Matrix___init__ [none] (fCons (fCall m_sum_rows [] [none, none, none] (fCons (fVar 0) (fCons (fVar 1) (fCons (fC (.int 1)) (fNil))))) (fNil)))
def m_Matrix___add__ : Mir := mirOf 2 [] b_Matrix___add__

def b_Matrix___sub__ : MS := fRet (fMake 22 m_Matrix___init__ [none] (fCons (fCall m_sum_rows [] [none, none, none] (fCons (fVar 0) (fCons (fVar 1) (fCons (fUn gNeg (fC (.int 1))) (fNil))))) (fNil)))
def m_Matrix___sub__ : Mir := mirOf 2 [] b_Matrix___sub__

def b_product_rows_e0 : M T := fBin gMul (fVar 5) (fVar 6)
def b_product_rows_e1 : M T := fCB (g1 gSum) (fCons (fLc (iArgs zipD (fCons (fVar 3) (fCons (fVar 4) (fNil)))) (sTup (sCons (sName 5) (sCons (sName 6) (sNil)))) (fYes) b_product_rows_e0 [5, 6]) (fNil))
def b_product_rows_e2 : M T := fLc (iSeq (fVar 2)) (sName 4) (fYes) b_product_rows_e1 [4]
def b_product_rows : MS := fSeq (fIfS (fTestB (fBin (gEq2 true) (fPeekF 0 22 "width") (fPeekF 1 22 "height"))) (fRaise 4 ["first", "second"] (fCons (fTup (fCons (fPeekF 0 22 "height") (fCons (fPeekF 0 22 "width") (fNil)))) (fCons (fTup (fCons (fPeekF 1 22 "height") (fCons (fPeekF 1 22 "width") (fNil)))) (fNil)))) (fNext)) (fSeq (fSet 2 (fUn gZipS (fPeekF 1 22 "rows"))) (fRet (fLc (iSeq (fPeekF 0 22 "rows")) (sName 3) (fYes) b_product_rows_e2 [3])))
def m_product_rows : Mir := mirOf 7 [] b_product_rows

def b_Matrix___mul__ : MS := fRet (fMake 22 m_Matrix___init__ [none] (fCons (fCall m_product_rows [] [none, none] (fCons (fVar 0) (fCons (fVar 1) (fNil)))) (fNil)))
def m_Matrix___mul__ : Mir := mirOf 2 [] b_Matrix___mul__

def b_Matrix_shape : MS := fRet (fTup (fCons (fPeekF 0 22 "height") (fCons (fPeekF 0 22 "width") (fNil))))
def m_Matrix_shape : Mir := mirOf 1 [] b_Matrix_shape

def b_Matrix_beside_e0 : M T := fBin gAdd2 (fVar 2) (fVar 3)
def b_Matrix_beside : MS := fSeq (fIfS (fTestB (fBin (gEq2 true) (fPeekF 0 22 "height") (fPeekF 1 22 "height"))) (fRaise 4 ["first", "second"] (fCons (fMeth 22 "shape" m_Matrix_shape [] (fVar 0) fNil) (fCons (fMeth 22 "shape" m_Matrix_shape [] (fVar 1) fNil) (fNil)))) (fNext)) (fRet (fMake 22 m_Matrix___init__ [none] (fCons (fLc (iArgs zipD (fCons (fPeekF 0 22 "rows") (fCons (fPeekF 1 22 "rows") (fNil)))) (sTup (sCons (sName 2) (sCons (sName 3) (sNil)))) (fYes) b_Matrix_beside_e0 [2, 3]) (fNil))))
def m_Matrix_beside : Mir := mirOf 4 [] b_Matrix_beside

def b_Matrix_times_e0 : M T := fBin gMul (fVar 3) (fVar 4)
def b_Matrix_times_e1 : M T := fCB (g1 gSum) (fCons (fLc (iArgs zipND (fCons (fVar 2) (fCons (fVar 1) (fNil)))) (sTup (sCons (sName 3) (sCons (sName 4) (sNil)))) (fYes) b_Matrix_times_e0 [3, 4]) (fNil))
def b_Matrix_times : MS := fSeq (fIfS (fTestB (fBin (gEq2 true) (fCB (g1 gLen) (fCons (fVar 1) (fNil))) (fPeekF 0 22 "width"))) (fRaise 4 ["first", "second"] (fCons (fMeth 22 "shape" m_Matrix_shape [] (fVar 0) fNil) (fCons (fCB (g1 gLen) (fCons (fVar 1) (fNil))) (fNil)))) (fNext)) (fRet (fLc (iSeq (fPeekF 0 22 "rows")) (sName 2) (fYes) b_Matrix_times_e1 [2]))
def m_Matrix_times : Mir := mirOf 5 [] b_Matrix_times

/-! ### matrices by their items -/
abbrev tR (w : Nat) (g : Nat → Int) : List D := (List.range w).map fun j => .int (g j)
abbrev mD (h w : Nat) (f : Nat → Nat → Int) : List D := (List.range h).map fun i => .tup (tR w (f i))
/-- the rows as lists or tuples -/
def rK (k : Bool) (ds : List D) : D := if k then .tup ds else .lst ds
abbrev mK (k : Nat → Bool) (h w : Nat) (f : Nat → Nat → Int) : List D := (List.range h).map fun i => rK (k i) (tR w (f i))
abbrev mNs : List Str := ["rows", "height", "width"]
abbrev mOb (h w : Nat) (f : Nat → Nat → Int) : D := .obj 22 mNs [.tup (mD h w f), .int (h : Int), .int (w : Int)]
abbrev mOT (h w : Nat) (f : Nat → Nat → Int) : T := .obj 22 mNs [.fz (.tup (mD h w f)), .fz (.int (h : Int)), .fz (.int (w : Int))]
abbrev mTr (h w : Nat) (f : Nat → Nat → Int) : T := .lst ((List.range h).map fun i => .lst ((List.range w).map fun j => .fz (.int (f i j))))
@[simp] theorem seqD_rK (k : Bool) (ds : List D) : seqD (rK k ds) = some ds := by cases k <;> rfl
@[simp] theorem gTuple_rK (k : Bool) (ds : List D) : gTuple (rK k ds) = some (.fz (.tup ds)) := by cases k <;> rfl
@[simp] theorem rowD_rK (k : Bool) (ds : List D) : rowD (rK k ds) = some ds := by cases k <;> rfl
@[simp] theorem ne_rows_height : (Str.ofString "rows" = Str.ofString "height") = False := eq_false (by decide)
@[simp] theorem ne_rows_width : (Str.ofString "rows" = Str.ofString "width") = False := eq_false (by decide)
@[simp] theorem ne_height_rows : (Str.ofString "height" = Str.ofString "rows") = False := eq_false (by decide)
@[simp] theorem ne_height_width : (Str.ofString "height" = Str.ofString "width") = False := eq_false (by decide)
@[simp] theorem ne_width_rows : (Str.ofString "width" = Str.ofString "rows") = False := eq_false (by decide)
@[simp] theorem ne_width_height : (Str.ofString "width" = Str.ofString "height") = False := eq_false (by decide)
@[simp] theorem ne_shape_rows : (Str.ofString "shape" = Str.ofString "rows") = False := eq_false (by decide)
@[simp] theorem ne_shape_height : (Str.ofString "shape" = Str.ofString "height") = False := eq_false (by decide)
@[simp] theorem ne_shape_width : (Str.ofString "shape" = Str.ofString "width") = False := eq_false (by decide)
theorem ixN_nat {n i : Nat} (h : i < n) : ixN n (i : Int) = some i := by
  unfold ixN
  rw [if_pos (by omega), if_pos (by omega)]
  simp
theorem atI_range {α : Type} {n i : Nat} {g : Nat → α} (h : i < n) : atI ((List.range n).map g) (i : Int) = some (g i) := by
  unfold atI
  rw [List.length_map, List.length_range, ixN_nat h]
  show ((List.range n).map g)[i]? = _
  rw [List.getElem?_map, List.getElem?_range h]
  rfl
theorem len_range {α : Type} {n : Nat} {g : Nat → α} : ((List.range n).map g).length = n := by simp
@[simp] theorem sl_1 : (1 ≤ sizeLine) = True := eq_true (by decide)
@[simp] theorem sl_2 : (2 ≤ sizeLine) = True := eq_true (by decide)
@[simp] theorem sl_3 : (3 ≤ sizeLine) = True := eq_true (by decide)
@[simp] theorem sl_4 : (4 ≤ sizeLine) = True := eq_true (by decide)
@[simp] theorem sl_5 : (5 ≤ sizeLine) = True := eq_true (by decide)
@[simp] theorem sl_6 : (6 ≤ sizeLine) = True := eq_true (by decide)
@[simp] theorem sl_7 : (7 ≤ sizeLine) = True := eq_true (by decide)
@[simp] theorem sl_8 : (8 ≤ sizeLine) = True := eq_true (by decide)
@[simp] theorem sl_9 : (9 ≤ sizeLine) = True := eq_true (by decide)
@[simp] theorem sl_10 : (10 ≤ sizeLine) = True := eq_true (by decide)
@[simp] theorem sl_11 : (11 ≤ sizeLine) = True := eq_true (by decide)
@[simp] theorem sl_12 : (12 ≤ sizeLine) = True := eq_true (by decide)
@[simp] theorem sl_13 : (13 ≤ sizeLine) = True := eq_true (by decide)
theorem big_size : 2 ^ 20 ≤ sizeLine := by decide
def LcOk (set : T → Env → Option Env) (elt : M T) (vs : List Nat) (env : Env) (d : D) (t : T) : Prop := match set (.fz d) env with
  | some e1 => (match elt e1 with
    | .ok u e3 => u = t ∧ wipeE e3 vs = env
    | _ => False)
  | none => False
/-- a comprehension over tabled data -/
theorem lc_tab {set : T → Env → Option Env} {elt : M T} {vs : List Nat} {env : Env} {n : Nat} {dk : Nat → D} {g : Nat → T} (hn : n < 2 ^ 20)
    (h : ∀ i, i < n → LcOk set elt vs env (dk i) (g i)) : loopC set fYes elt vs ((List.range n).map dk) [] env = .ok ((List.range n).map g) env := by
  have gen : ∀ (l : List Nat) (acc : List T), (∀ i ∈ l, i < n) → acc.length + l.length ≤ 2 ^ 20 → loopC set fYes elt vs (l.map dk) acc env = .ok (acc ++ l.map g) env := by
    intro l
    induction l with
    | nil => intro acc _ _; simp [loopC]
    | cons i l ih =>
      intro acc hi hl
      have hk := h i (hi i (List.mem_cons_self ..))
      have := big_size
      have hlt : acc.length < sizeLine := by simp at hl; omega
      have ih := ih (acc ++ [g i]) (fun k hk => hi k (List.mem_cons_of_mem _ hk)) (by simp at hl ⊢; omega)
      unfold LcOk at hk
      cases e1 : set (.fz (dk i)) env with
      | none => rw [e1] at hk; exact hk.elim
      | some e =>
        rw [e1] at hk
        cases e2 : elt e with
        | no => simp only [e2] at hk
        | ex x e3 => simp only [e2] at hk
        | ok t e3 =>
          simp only [e2] at hk
          obtain ⟨rfl, hw⟩ := hk
          simp only [List.map_cons, loopC, e1, fYes, e2, hw, if_pos hlt, ih]
          simp
  have := gen (List.range n) [] (fun i hi => List.mem_range.mp hi) (by simp; omega)
  simpa using this
def LcOkE (set : T → Env → Option Env) (elt : M T) (vs : List Nat) (env : Env) (d : D) (t : T) (env' : Env) : Prop := match set (.fz d) env with
  | some e1 => (match elt e1 with
    | .ok u e3 => u = t ∧ wipeE e3 vs = env'
    | _ => False)
  | none => False
/-- a comprehension over tabled data, the slots change -/
theorem lc_tabE {set : T → Env → Option Env} {elt : M T} {vs : List Nat} {n : Nat} {dk : Nat → D} {g : Nat → T} (E : Nat → Env) (hn : n < 2 ^ 20)
    (h : ∀ i, i < n → LcOkE set elt vs (E i) (dk i) (g i) (E (i + 1))) : loopC set fYes elt vs ((List.range n).map dk) [] (E 0) = .ok ((List.range n).map g) (E n) := by
  have gen : ∀ (m i : Nat) (acc : List T), i + m = n → acc.length + m ≤ 2 ^ 20 → loopC set fYes elt vs ((List.range' i m).map dk) acc (E i) = .ok (acc ++ (List.range' i m).map g) (E n) := by
    intro m
    induction m with
    | zero => intro i acc hi _; simp [loopC]; rw [← hi]; rfl
    | succ m ih =>
      intro i acc hi hl
      have hk := h i (by omega)
      have := big_size
      have hlt : acc.length < sizeLine := by omega
      have ih := ih (i + 1) (acc ++ [g i]) (by omega) (by simp; omega)
      unfold LcOkE at hk
      rw [List.range'_succ]
      cases e1 : set (.fz (dk i)) (E i) with
      | none => rw [e1] at hk; exact hk.elim
      | some e =>
        rw [e1] at hk
        cases e2 : elt e with
        | no => simp only [e2] at hk
        | ex x e3 => simp only [e2] at hk
        | ok t e3 =>
          simp only [e2] at hk
          obtain ⟨rfl, hw⟩ := hk
          simp only [List.map_cons, loopC, e1, fYes, e2, hw, if_pos hlt, ih]
          simp
  have := gen n 0 [] (by omega) (by simp; omega)
  rw [List.range_eq_range']
  simpa using this
def LfOk (set : T → Env → Option Env) (b : MS) (d : D) (env env' : Env) : Prop := match set (.fz d) env with
  | some e1 => b e1 = .nx env'
  | none => False
/-! a loop over tabled data that goes through -/
theorem lf_tab {set : T → Env → Option Env} {b : MS} {n : Nat} {dk : Nat → D} (E : Nat → Env) (h : ∀ i, i < n → LfOk set b (dk i) (E i) (E (i + 1))) : loopF set b ((List.range n).map dk) (E 0) = .nx (E n) := by
  have gen : ∀ (m i : Nat), i + m = n → loopF set b ((List.range' i m).map dk) (E i) = .nx (E n) := by
    intro m
    induction m with
    | zero => intro i hi; simp [loopF]; rw [← hi]; rfl
    | succ m ih =>
      intro i hi
      have hk := h i (by omega)
      unfold LfOk at hk
      cases e1 : set (.fz (dk i)) (E i) with
      | none => rw [e1] at hk; exact hk.elim
      | some e =>
        rw [e1] at hk
        rw [List.range'_succ, List.map_cons, loopF_go e1 hk]
        exact ih (i + 1) (by omega)
  have := gen n 0 (by omega)
  rw [List.range_eq_range']
  exact this
theorem enumL_tab {n : Nat} {g : Nat → D} : enumL 0 ((List.range n).map g) = (List.range n).map fun i => .tup [.int (i : Int), g i] := by
  apply List.ext_getElem?
  intro i
  by_cases hi : i < n
  · have hl : i < (enumL 0 ((List.range n).map g)).length := by rw [enumL_len]; simpa using hi
    obtain ⟨x, h1, h2⟩ := enumL_get (List.getElem?_eq_getElem hl)
    rw [List.getElem?_eq_getElem hl, h2, List.getElem?_map, List.getElem?_range hi]
    rw [List.getElem?_map, List.getElem?_range hi] at h1
    simp at h1
    simp [h1]
  · rw [List.getElem?_eq_none (by rw [enumL_len]; simpa using hi), List.getElem?_eq_none (by simpa using hi)]
@[simp] theorem frzs_tab (n : Nat) (g : Nat → D) : frzs ((List.range n).map fun i => .fz (g i)) = (List.range n).map g := frzs_map g _
theorem frzs_range (n : Nat) (g : Nat → T) : frzs ((List.range n).map g) = (List.range n).map fun i => frz (g i) := by
  generalize List.range n = l
  induction l with
  | nil => rfl
  | cons a l ih => simp [ih]
@[simp] theorem len_map_range {α : Type} (n : Nat) (g : Nat → α) : ((List.range n).map g).length = n := by simp
theorem minit_eq {d : D} {k : Nat → Bool} {h w : Nat} {f : Nat → Nat → Int} (hd : d = .lst (mK k h w f) ∨ d = .tup (mK k h w f)) (hh : 0 < h) (bh : h < 2 ^ 20) :
    m_Matrix___init__ [.obj 22 [] [], .fz d] = .ok (.fz .non) [mOT h w f] := by
  have l := lc_tab (set := sName 3) (elt := b_Matrix___init___e0) (vs := [3]) (n := h) (dk := fun i => rK (k i) (tR w (f i))) (g := fun i => .fz (.tup (tR w (f i)))) (env := [some (.obj 22 [] []), some (.fz d), none, none]) bh (fun i hi => by
    cases hk : k i <;> simp [LcOk, b_Matrix___init___e0, rK])
  have a0 := atI_range (n := h) (g := fun i => D.tup (tR w (f i))) hh
  have lf := lf_tab (set := sTup (sCons (sName 2) (sCons (sName 3) sNil))) (b := b_Matrix___init___f0) (n := h) (dk := fun i => .tup [.int (i : Int), .tup (tR w (f i))])
    (fun i => if i = 0 then [some (mOT h w f), some (.fz d), none, none] else [some (mOT h w f), some (.fz d), some (.fz (.int ((i - 1 : Nat) : Int))), some (.fz (.tup (tR w (f (i - 1)))))])
    (fun i hi => by
      by_cases h0 : i = 0
      · subst h0
        simp [LfOk, b_Matrix___init___f0]
      · simp [LfOk, b_Matrix___init___f0, h0])
  have hz : h ≠ 0 := by omega
  simp only [if_true, hz, if_false] at lf
  simp only [Int.natCast_zero] at a0
  rcases hd with rfl | rfl
  · simp [m_Matrix___init__, b_Matrix___init__, l, enumL_tab, a0, lf]
  · simp [m_Matrix___init__, b_Matrix___init__, l, enumL_tab, a0, lf]
/-! ### sums -/
theorem pair_tab {w : Nat} {g g' : Nat → D} : pairD ((List.range w).map g) ((List.range w).map g') = (List.range w).map fun j => .tup [g j, g' j] := by
  unfold pairD
  apply List.ext_getElem?
  intro i
  rw [List.getElem?_zipWith, List.getElem?_map, List.getElem?_map, List.getElem?_map]
  by_cases hi : i < w
  · rw [List.getElem?_range hi]; rfl
  · rw [List.getElem?_eq_none (by simpa using hi)]; rfl
theorem sum_rows_eq {h w : Nat} {f g : Nat → Nat → Int} {c : Int} (bh : h < 2 ^ 20) (bw : w < 2 ^ 20) (hm : ∀ i j, mulOk c (g i j) = true) :
    m_sum_rows [.fz (mOb h w f), .fz (mOb h w g), .fz (.int c)] = .ok (.fz (.lst (mK (fun _ => false) h w fun i j => f i j + c * g i j))) [] := by
  have inner : ∀ (O3 : Option T) (i : Nat), loopC (sTup (sCons (sName 6) (sCons (sName 7) sNil))) fYes b_sum_rows_e0 [6, 7] ((List.range w).map fun j => .tup [.int (f i j), .int (g i j)]) [] [some (.fz (mOb h w f)), some (.fz (mOb h w g)), some (.fz (.int c)), O3, some (.fz (.tup (tR w (f i)))), some (.fz (.tup (tR w (g i)))), none, none]
      = .ok ((List.range w).map fun j => .fz (.int (f i j + c * g i j))) [some (.fz (mOb h w f)), some (.fz (mOb h w g)), some (.fz (.int c)), O3, some (.fz (.tup (tR w (f i)))), some (.fz (.tup (tR w (g i)))), none, none] := fun O3 i =>
    lc_tab bw fun j hj => by simp [LcOk, b_sum_rows_e0, hm]
  have lf := lf_tab (set := sTup (sCons (sName 4) (sCons (sName 5) sNil))) (b := b_sum_rows_f0) (n := h) (dk := fun i => .tup [.tup (tR w (f i)), .tup (tR w (g i))])
    (fun i => if i = 0 then [some (.fz (mOb h w f)), some (.fz (mOb h w g)), some (.fz (.int c)), some (.lst []), none, none, none, none] else
      [some (.fz (mOb h w f)), some (.fz (mOb h w g)), some (.fz (.int c)), some (.lst ((List.range i).map fun i => .lst ((List.range w).map fun j => .fz (.int (f i j + c * g i j))))), some (.fz (.tup (tR w (f (i - 1))))), some (.fz (.tup (tR w (g (i - 1))))), none, none])
    (fun i hi => by
      have hs : i < sizeLine := Nat.lt_of_lt_of_le (by omega) big_size
      by_cases h0 : i = 0
      · subst h0
        simp [LfOk, b_sum_rows_f0, inner, pair_tab, hs]
      · simp [LfOk, b_sum_rows_f0, inner, h0, pair_tab, hs, List.range_succ])
  by_cases hz : h = 0
  · subst hz
    simp only [if_true] at lf
    simp [m_sum_rows, b_sum_rows, pair_tab] at lf ⊢
    simp [lf]
  · simp only [if_true, hz, if_false] at lf
    simp [m_sum_rows, b_sum_rows, lf, pair_tab, frzs_range, rK]
/-- a shape that an error can tell -/
theorem fmt_nat {n : Nat} (h : n < 2 ^ 20) : intF (n : Int) = true := intF_of (by
  have : (2 : Nat) ^ 20 ≤ 2 ^ 1900 := Nat.pow_le_pow_right (by decide) (by decide)
  omega)
abbrev shD (h w : Nat) : D := .tup [.int (h : Int), .int (w : Int)]
abbrev exU (h w h' w' : Nat) : Ex := ⟨4, some (["second", "first"], [shD h' w', shD h w])⟩
theorem sum_rows_ex {h w h' w' : Nat} {f g : Nat → Nat → Int} {c : Int} (bh : h < 2 ^ 20) (bw : w < 2 ^ 20) (bh' : h' < 2 ^ 20) (bw' : w' < 2 ^ 20) (hn : ¬ (h = h' ∧ w = w')) :
    m_sum_rows [.fz (mOb h w f), .fz (mOb h' w' g), .fz (.int c)] = .ex (exU h w h' w') [] := by
  have a1 := fmt_nat bh
  have a2 := fmt_nat bw
  have a3 := fmt_nat bh'
  have a4 := fmt_nat bw'
  by_cases h1 : h = h'
  · have h2 : ¬ w = w' := fun z => hn ⟨h1, z⟩
    subst h1
    have h2' : ¬ (w : Int) = w' := by omega
    simp [m_sum_rows, b_sum_rows, h2', a1, a2, a3, a4, fmtD, fmtI]
  · have h1' : ¬ (h : Int) = h' := by omega
    simp [m_sum_rows, b_sum_rows, h1', a1, a2, a3, a4, fmtD, fmtI]
end DL

set_option maxHeartbeats 4000000
namespace DL
open PySem L2
theorem madd_eq {h w : Nat} {f g : Nat → Nat → Int} (hh : 0 < h) (bh : h < 2 ^ 20) (bw : w < 2 ^ 20) (hm : ∀ i j, sz (g i j) < 100000000) :
    m_Matrix___add__ [.fz (mOb h w f), .fz (mOb h w g)] = .ok (mOT h w fun i j => f i j + g i j) [] := by
  have e1 := sum_rows_eq (h := h) (w := w) (f := f) (g := g) (c := 1) bh bw (fun i j => mulOk_of (a := 10) (b := 100000000) (by decide) (Nat.le_of_lt (hm i j)) (by decide))
  have e2 := minit_eq (k := fun _ => false) (h := h) (w := w) (f := fun i j => f i j + 1 * g i j) (.inl rfl) hh bh
  simp only [Int.one_mul] at e1 e2
  simp [m_Matrix___add__, b_Matrix___add__, e1, e2]
theorem msub_eq {h w : Nat} {f g : Nat → Nat → Int} (hh : 0 < h) (bh : h < 2 ^ 20) (bw : w < 2 ^ 20) (hm : ∀ i j, sz (g i j) < 100000000) :
    m_Matrix___sub__ [.fz (mOb h w f), .fz (mOb h w g)] = .ok (mOT h w fun i j => f i j - g i j) [] := by
  have e1 := sum_rows_eq (h := h) (w := w) (f := f) (g := g) (c := -1) bh bw (fun i j => mulOk_of (a := 10) (b := 100000000) (by decide) (Nat.le_of_lt (hm i j)) (by decide))
  have e2 := minit_eq (k := fun _ => false) (h := h) (w := w) (f := fun i j => f i j + -1 * g i j) (.inl rfl) hh bh
  have e3 : (fun i j => f i j + -1 * g i j) = (fun i j => f i j - g i j) := by
    funext i j; omega
  rw [e3] at e1 e2
  simp [m_Matrix___sub__, b_Matrix___sub__, e1, e2]
theorem madd_ex {h w h' w' : Nat} {f g : Nat → Nat → Int} (bh : h < 2 ^ 20) (bw : w < 2 ^ 20) (bh' : h' < 2 ^ 20) (bw' : w' < 2 ^ 20) (hn : ¬ (h = h' ∧ w = w')) :
    m_Matrix___add__ [.fz (mOb h w f), .fz (mOb h' w' g)] = .ex (exU h w h' w') [] := by
  have e1 := sum_rows_ex (f := f) (g := g) (c := 1) bh bw bh' bw' hn
  simp [m_Matrix___add__, b_Matrix___add__, e1]
theorem msub_ex {h w h' w' : Nat} {f g : Nat → Nat → Int} (bh : h < 2 ^ 20) (bw : w < 2 ^ 20) (bh' : h' < 2 ^ 20) (bw' : w' < 2 ^ 20) (hn : ¬ (h = h' ∧ w = w')) :
    m_Matrix___sub__ [.fz (mOb h w f), .fz (mOb h' w' g)] = .ex (exU h w h' w') [] := by
  have e1 := sum_rows_ex (f := f) (g := g) (c := -1) bh bw bh' bw' hn
  simp [m_Matrix___sub__, b_Matrix___sub__, e1]
/-! ### products -/
def dotN (n : Nat) (a b : Nat → Int) : Int := ((List.range n).map fun k => a k * b k).sum
theorem ints_tab (n : Nat) (g : Nat → Int) : intsD ((List.range n).map fun k => .int (g k)) = some ((List.range n).map g) := by
  generalize List.range n = l
  induction l with
  | nil => rfl
  | cons a l ih => simp [ih]
theorem rows_tab {α : Type} (n : Nat) (r : Nat → List D) : rowsD ((List.range n).map fun i => .tup (r i)) = some ((List.range n).map r) := by
  generalize List.range n = l
  induction l with
  | nil => rfl
  | cons a l ih => simp [ih]
theorem zipS_eq {h w : Nat} {g : Nat → Nat → Int} (hh : 0 < h) (bh : h < 2 ^ 20) (bw : w < 2 ^ 20) : gZipS (.tup (mD h w g)) = some (.lst ((List.range w).map fun k => .fz (.tup (tR h fun i => g i k)))) := by
  have := big_size
  obtain ⟨h, rfl⟩ : ∃ n, h = n + 1 := ⟨h - 1, by omega⟩
  have e := rows_tab (α := Nat) (h + 1) fun i => tR w (g i)
  rw [List.range_succ_eq_map, List.map_cons, List.map_cons] at e
  have al : allLen w (tR w (g 0) :: ((List.range h).map Nat.succ).map fun i => tR w (g i)) = true := by
    simp [allLen]
  have e2 : mD (h + 1) w g = .tup (tR w (g 0)) :: ((List.range h).map Nat.succ).map fun i => .tup (tR w (g i)) := by
    show (List.range (h + 1)).map _ = _
    rw [List.range_succ_eq_map, List.map_cons]
  have l1 : (tR w (g 0)).length = w := by simp
  show (match rowD (.tup (mD (h + 1) w g)) with | some ds => gZipN ds | none => none) = _
  rw [e2]
  show gZipN _ = _
  unfold gZipN
  rw [e]
  simp only [l1, al]
  rw [if_pos ⟨trivial, by omega, by simp; omega⟩]
  refine congrArg some (congrArg T.lst ?_)
  apply List.map_congr_left
  intro k hk
  have hk := List.mem_range.mp hk
  refine congrArg T.fz (congrArg D.tup ?_)
  show (tR w (g 0) :: ((List.range h).map Nat.succ).map fun i => tR w (g i)).map (fun r => r.getD k .non) = (List.range (h + 1)).map fun i => .int (g i k)
  rw [List.range_succ_eq_map]
  have gd : ∀ i, (tR w (g i)).getD k .non = .int (g i k) := fun i => by
    rw [List.getD_eq_getElem?_getD, List.getElem?_map, List.getElem?_range hk]
    rfl
  simp only [List.map_cons, gd, List.map_map]
  congr 1
  apply List.map_congr_left
  intro i _
  exact gd (i + 1)
theorem product_rows_eq {h n w : Nat} {f g : Nat → Nat → Int} (hn : 0 < n) (bh : h < 2 ^ 20) (bn : n < 2 ^ 20) (bw : w < 2 ^ 20) (hm : ∀ i j k, mulOk (f i k) (g k j) = true) :
    m_product_rows [.fz (mOb h n f), .fz (mOb n w g)] = .ok (.lst ((List.range h).map fun i => .lst ((List.range w).map fun j => .fz (.int (dotN n (f i) fun k => g k j))))) [] := by
  have z := zipS_eq (g := g) hn bn bw
  have in0 : ∀ (A B : Option T) (cs : Option T) (i j : Nat), loopC (sTup (sCons (sName 5) (sCons (sName 6) sNil))) fYes b_product_rows_e0 [5, 6] ((List.range n).map fun k => .tup [.int (f i k), .int (g k j)]) [] [A, B, cs, some (.fz (.tup (tR n (f i)))), some (.fz (.tup (tR n fun k => g k j))), none, none]
      = .ok ((List.range n).map fun k => .fz (.int (f i k * g k j))) [A, B, cs, some (.fz (.tup (tR n (f i)))), some (.fz (.tup (tR n fun k => g k j))), none, none] := fun A B cs i j =>
    lc_tab bn fun k hk => by simp [LcOk, b_product_rows_e0, hm]
  have in1 : ∀ (A B : Option T) (cs : T) (i : Nat), loopC (sName 4) fYes b_product_rows_e1 [4] ((List.range w).map fun j => .tup (tR n fun k => g k j)) [] [A, B, some cs, some (.fz (.tup (tR n (f i)))), none, none, none]
      = .ok ((List.range w).map fun j => .fz (.int (dotN n (f i) fun k => g k j))) [A, B, some cs, some (.fz (.tup (tR n (f i)))), none, none, none] := fun A B cs i =>
    lc_tab bw fun j hj => by simp [LcOk, b_product_rows_e1, in0, pair_tab, ints_tab, dotN]
  have in2 : ∀ (A B : Option T), ∃ e', loopC (sName 3) fYes b_product_rows_e2 [3] (mD h n f) [] [A, B, some (.lst ((List.range w).map fun k => .fz (.tup (tR n fun i => g i k)))), none, none, none, none]
      = .ok ((List.range h).map fun i => .lst ((List.range w).map fun j => .fz (.int (dotN n (f i) fun k => g k j)))) e' := fun A B =>
    ⟨_, lc_tabE (fun i => if i = 0 then [A, B, some (.lst ((List.range w).map fun k => .fz (.tup (tR n fun i => g i k)))), none, none, none, none] else [A, B, some (.fz (.lst ((List.range w).map fun k => .tup (tR n fun i => g i k)))), none, none, none, none]) bh fun i hi => by
      by_cases h0 : i = 0
      · subst h0
        simp [LcOkE, b_product_rows_e2, in1]
      · simp [LcOkE, b_product_rows_e2, in1, h0]⟩
  obtain ⟨e', in2⟩ := in2 (some (.fz (mOb h n f))) (some (.fz (mOb n w g)))
  unfold m_product_rows b_product_rows
  simp only [mirOf, startE, fSeq, fIfS, fTestB, fBin, fPeekF, fSet, fUn]
  simp [-gZipS, z, in2]
abbrev exP (h w h' w' : Nat) : Ex := exU h w h' w'
theorem product_rows_ex {h w h' w' : Nat} {f g : Nat → Nat → Int} (bh : h < 2 ^ 20) (bw : w < 2 ^ 20) (bh' : h' < 2 ^ 20) (bw' : w' < 2 ^ 20) (hn : w ≠ h') :
    m_product_rows [.fz (mOb h w f), .fz (mOb h' w' g)] = .ex (exU h w h' w') [] := by
  have a1 := fmt_nat bh
  have a2 := fmt_nat bw
  have a3 := fmt_nat bh'
  have a4 := fmt_nat bw'
  have h2' : ¬ (w : Int) = h' := by omega
  simp [m_product_rows, b_product_rows, h2', a1, a2, a3, a4, fmtD, fmtI]
theorem mmul_eq {h n w : Nat} {f g : Nat → Nat → Int} (hh : 0 < h) (hn : 0 < n) (bh : h < 2 ^ 20) (bn : n < 2 ^ 20) (bw : w < 2 ^ 20) (hm : ∀ i j k, mulOk (f i k) (g k j) = true) :
    m_Matrix___mul__ [.fz (mOb h n f), .fz (mOb n w g)] = .ok (mOT h w fun i j => dotN n (f i) fun k => g k j) [] := by
  have e1 := product_rows_eq (h := h) hn bh bn bw hm
  have e2 := minit_eq (k := fun _ => false) (h := h) (w := w) (f := fun i j => dotN n (f i) fun k => g k j) (.inl rfl) hh bh
  simp only [mK, rK, Bool.false_eq_true, if_false] at e2
  simp [m_Matrix___mul__, b_Matrix___mul__, e1, frzs_range, e2]
theorem mmul_ex {h w h' w' : Nat} {f g : Nat → Nat → Int} (bh : h < 2 ^ 20) (bw : w < 2 ^ 20) (bh' : h' < 2 ^ 20) (bw' : w' < 2 ^ 20) (hn : w ≠ h') :
    m_Matrix___mul__ [.fz (mOb h w f), .fz (mOb h' w' g)] = .ex (exU h w h' w') [] := by
  have e1 := product_rows_ex (f := f) (g := g) bh bw bh' bw' hn
  simp [m_Matrix___mul__, b_Matrix___mul__, e1]
/-! ### beside -/
def besF (w : Nat) (f g : Nat → Nat → Int) : Nat → Nat → Int := fun i j => if j < w then f i j else g i (j - w)
theorem app_tab {α : Type} (w w' : Nat) (a b : Nat → α) : (List.range w).map a ++ (List.range w').map b = (List.range (w + w')).map fun j => if j < w then a j else b (j - w) := by
  apply List.ext_getElem?
  intro i
  by_cases h1 : i < w
  · rw [List.getElem?_append_left (by simpa using h1), List.getElem?_map, List.getElem?_range h1, List.getElem?_map, List.getElem?_range (by omega)]
    simp [h1]
  · rw [List.getElem?_append_right (by simpa using h1), len_map_range, List.getElem?_map, List.getElem?_map]
    by_cases h2 : i < w + w'
    · rw [List.getElem?_range h2, List.getElem?_range (by omega)]
      simp [h1]
    · rw [List.getElem?_eq_none (by simp; omega), List.getElem?_eq_none (by simp; omega)]
      rfl
theorem shape_eq {h w : Nat} {f : Nat → Nat → Int} : m_Matrix_shape [.fz (mOb h w f)] = .ok (.fz (shD h w)) [] := by
  simp [m_Matrix_shape, b_Matrix_shape]
@[simp] theorem shape_no : (mNs.contains (Str.ofString "shape")) = false := by decide
theorem beside_eq {h w w' : Nat} {f g : Nat → Nat → Int} (hh : 0 < h) (bh : h < 2 ^ 20) (bw : w < 2 ^ 19) (bw' : w' < 2 ^ 19) :
    m_Matrix_beside [.fz (mOb h w f), .fz (mOb h w' g)] = .ok (mOT h (w + w') (besF w f g)) [] := by
  have := big_size
  have l := lc_tab (set := sTup (sCons (sName 2) (sCons (sName 3) sNil))) (elt := b_Matrix_beside_e0) (vs := [2, 3]) (n := h) (dk := fun i => .tup [.tup (tR w (f i)), .tup (tR w' (g i))]) (g := fun i => .fz (.tup (tR (w + w') (besF w f g i)))) (env := [some (.fz (mOb h w f)), some (.fz (mOb h w' g)), none, none]) bh (fun i hi => by
    have ap := app_tab w w' (fun j => D.int (f i j)) (fun j => D.int (g i j))
    have e : (fun j => if j < w then D.int (f i j) else D.int (g i (j - w))) = fun j => D.int (besF w f g i j) := by
      funext j
      unfold besF
      split <;> rfl
    rw [e] at ap
    have hl : w + w' ≤ sizeLine := by omega
    simp [LcOk, b_Matrix_beside_e0, ap, hl])
  have e2 := minit_eq (k := fun _ => true) (h := h) (w := w + w') (f := besF w f g) (.inl rfl) hh bh
  simp only [mK, rK, if_true] at e2
  simp [m_Matrix_beside, b_Matrix_beside, pair_tab, l, e2]
theorem beside_ex {h w h' w' : Nat} {f g : Nat → Nat → Int} (bh : h < 2 ^ 20) (bw : w < 2 ^ 20) (bh' : h' < 2 ^ 20) (bw' : w' < 2 ^ 20) (hn : h ≠ h') :
    m_Matrix_beside [.fz (mOb h w f), .fz (mOb h' w' g)] = .ex (exU h w h' w') [] := by
  have a1 := fmt_nat bh
  have a2 := fmt_nat bw
  have a3 := fmt_nat bh'
  have a4 := fmt_nat bw'
  have h2' : ¬ (h : Int) = h' := by omega
  simp [m_Matrix_beside, b_Matrix_beside, h2', shape_eq, a1, a2, a3, a4, fmtD, fmtI, methS]
/-! ### times -/
theorem times_eq {h w : Nat} {f : Nat → Nat → Int} {v : Nat → Int} (bh : h < 2 ^ 20) (bw : w < 2 ^ 20) (hm : ∀ i k, mulOk (f i k) (v k) = true) :
    m_Matrix_times [.fz (mOb h w f), .fz (.lst (tR w v))] = .ok (.lst ((List.range h).map fun i => .fz (.int (dotN w (f i) v)))) [] := by
  have zz : ∀ i, zipND [.tup (tR w (f i)), .lst (tR w v)] = some ((List.range w).map fun k => .tup [.int (f i k), .int (v k)]) := fun i => by
    rw [zipN2 (xs := tR w (f i)) (ys := tR w v) rfl rfl (by simp), pair_tab]
  have in0 : ∀ (A B : Option T) (i : Nat), loopC (sTup (sCons (sName 3) (sCons (sName 4) sNil))) fYes b_Matrix_times_e0 [3, 4] ((List.range w).map fun k => .tup [.int (f i k), .int (v k)]) [] [A, B, some (.fz (.tup (tR w (f i)))), none, none]
      = .ok ((List.range w).map fun k => .fz (.int (f i k * v k))) [A, B, some (.fz (.tup (tR w (f i)))), none, none] := fun A B i =>
    lc_tab bw fun k hk => by simp [LcOk, b_Matrix_times_e0, hm]
  have in1 : ∀ (A : Option T), loopC (sName 2) fYes b_Matrix_times_e1 [2] (mD h w f) [] [A, some (.fz (.lst (tR w v))), none, none, none]
      = .ok ((List.range h).map fun i => .fz (.int (dotN w (f i) v))) [A, some (.fz (.lst (tR w v))), none, none, none] := fun A =>
    lc_tab bh fun i hi => by simp [-zipND, zz, LcOk, b_Matrix_times_e1, in0, ints_tab, dotN]
  simp [m_Matrix_times, b_Matrix_times, in1]
theorem times_ex {h w n : Nat} {f : Nat → Nat → Int} {v : Nat → Int} (bh : h < 2 ^ 20) (bw : w < 2 ^ 20) (bn : n < 2 ^ 20) (hn : n ≠ w) :
    m_Matrix_times [.fz (mOb h w f), .fz (.lst (tR n v))] = .ex ⟨4, some (["second", "first"], [.int (n : Int), shD h w])⟩ [] := by
  have a1 := fmt_nat bh
  have a2 := fmt_nat bw
  have a3 := fmt_nat bn
  have h2' : ¬ (n : Int) = w := by omega
  simp [m_Matrix_times, b_Matrix_times, h2', shape_eq, a1, a2, a3, fmtD, fmtI, methS]
end DL

set_option maxHeartbeats 4000000
namespace DL
open PySem L2
/-! ### determinants: the program's steps -/
def b_determinant_of_e0 : M T := fCB (g1 gList) (fCons (fVar 9) (fNil))
def b_determinant_of_c0 : M Bool := fRoT (fAnd (fTestB (fBin gLt (fVar 6) (fVar 2))) (fTestB (fBin (gEq2 false) (fBin gIx (fBin gIx (fVar 1) (fVar 6)) (fVar 5)) (fC (.int 0)))))
def b_determinant_of_w0 : MS := fAug gAdd 6 (fC (.int 1))
def b_determinant_of_f0 : MS := fAsg (fRo (fBin gFdiv (fBin gSub (fBin gMul (fBin gIx (fBin gIx (fVar 1) (fVar 7)) (fVar 8)) (fBin gIx (fBin gIx (fVar 1) (fVar 5)) (fVar 5))) (fBin gMul (fBin gIx (fBin gIx (fVar 1) (fVar 7)) (fVar 5)) (fBin gIx (fBin gIx (fVar 1) (fVar 5)) (fVar 8)))) (fVar 4))) (sPlPut (fPlIx (fPl 1) (fVar 7)) (fVar 8))
def b_determinant_of_f1 : MS := fFor (iArgs range2D (fCons (fBin gAdd2 (fVar 5) (fC (.int 1))) (fCons (fVar 2) (fNil)))) (sName 8) b_determinant_of_f0
def b_determinant_of_f2 : MS := fSeq (fSet 6 (fVar 5)) (fSeq (fWhile ((fun _ => 10)) b_determinant_of_c0 b_determinant_of_w0) (fSeq (fIfS (fTestB (fBin (gEq2 false) (fVar 6) (fVar 2))) (fRet (fC (.int 0))) (fNext)) (fSeq (fIfS (fTestB (fBin (gEq2 true) (fVar 6) (fVar 5))) (fSeq (fSwap 1 (fVar 5) (fVar 6) (fVar 6) (fVar 5)) (fSet 3 (fUn gNeg (fVar 3)))) (fNext)) (fSeq (fFor (iArgs range2D (fCons (fBin gAdd2 (fVar 5) (fC (.int 1))) (fCons (fVar 2) (fNil)))) (sName 7) b_determinant_of_f1) (fSet 4 (fRo (fBin gIx (fBin gIx (fVar 1) (fVar 5)) (fVar 5))))))))
def b_determinant_of : MS := fSeq (fSet 1 (fLc (iSeq (fVar 0)) (sName 9) (fYes) b_determinant_of_e0 [9])) (fSeq (fSet 2 (fCBl (q1 pLen) [some 1] (fMove 1 fNil))) (fSeq (fSet 3 (fC (.int 1))) (fSeq (fSet 4 (fC (.int 1))) (fSeq (fFor (iArgs range1D (fCons (fBin gSub (fVar 2) (fC (.int 1))) (fNil))) (sName 5) b_determinant_of_f2) (fRet (fRo (fBin gMul (fVar 3) (fBin gIx (fBin gIx (fVar 1) (fBin gSub (fVar 2) (fC (.int 1)))) (fBin gSub (fVar 2) (fC (.int 1)))))))))))
def m_determinant_of : Mir := mirOf 10 [] b_determinant_of

def b_Matrix_determinant : MS := fSeq (fIfS (fTestB (fBin (gEq2 true) (fPeekF 0 22 "height") (fPeekF 0 22 "width"))) (fRaise 5 ["height", "width"] (fCons (fPeekF 0 22 "height") (fCons (fPeekF 0 22 "width") (fNil)))) (fNext)) (fRet (fCall m_determinant_of [] [none] (fCons (fPeekF 0 22 "rows") (fNil))))
def m_Matrix_determinant : Mir := mirOf 1 [] b_Matrix_determinant

theorem frzE_cons (o : Option T) (e : Env) : frzE (o :: e) = o.map (fun t => .fz (frz t)) :: frzE e := by cases o <;> rfl
theorem mTr_congr {h w : Nat} {f g : Nat → Nat → Int} (e : ∀ i j, i < h → j < w → f i j = g i j) : mTr h w f = mTr h w g := by
  refine congrArg T.lst (List.map_congr_left fun i hi => congrArg T.lst (List.map_congr_left fun j hj => ?_))
  rw [e i j (List.mem_range.mp hi) (List.mem_range.mp hj)]
theorem frz_mTr (h w : Nat) (f : Nat → Nat → Int) : frz (mTr h w f) = .lst ((List.range h).map fun i => .lst (tR w (f i))) := by
  simp [frzs_range]
theorem rangeD_nat (a m : Nat) : rangeD (a : Int) m = (List.range m).map fun k => .int ((a + k : Nat) : Int) := by
  unfold rangeD
  apply List.map_congr_left
  intro k _
  simp
theorem set_tab {α : Type} {n i : Nat} {g : Nat → α} {x : α} (hi : i < n) : ((List.range n).map g).set i x = (List.range n).map fun k => if k = i then x else g k := by
  apply List.ext_getElem?
  intro k
  by_cases hk : k = i
  · subst hk
    rw [List.getElem?_set_self (by simpa using hi), List.getElem?_map, List.getElem?_range hi]
    simp
  · rw [List.getElem?_set_ne (fun z => hk z.symm), List.getElem?_map, List.getElem?_map]
    by_cases hn : k < n
    · rw [List.getElem?_range hn]; simp [hk]
    · rw [List.getElem?_eq_none (by simpa using hn)]; rfl
def upF (f : Nat → Nat → Int) (i j : Nat) (v : Int) : Nat → Nat → Int := fun i' j' => if i' = i ∧ j' = j then v else f i' j'
/-- left[i][j] = v -/
theorem put_tab {h w i j : Nat} {f : Nat → Nat → Int} {v : Int} (hi : i < h) (hj : j < w) :
    T.lst (((List.range h).map fun i => T.lst ((List.range w).map fun j => .fz (.int (f i j)))).set i (.lst (((List.range w).map fun j => T.fz (.int (f i j))).set j (.fz (.int v))))) = mTr h w (upF f i j v) := by
  rw [set_tab hj, set_tab hi]
  refine congrArg T.lst (List.map_congr_left fun i' _ => ?_)
  by_cases e : i' = i
  · subst e
    rw [if_pos rfl]
    refine congrArg T.lst (List.map_congr_left fun j' _ => ?_)
    by_cases e2 : j' = j
    · simp [upF, e2]
    · simp [upF, e2]
  · rw [if_neg e]
    refine congrArg T.lst (List.map_congr_left fun j' _ => ?_)
    simp [upF, e]
/-- the step of elimination -/
def el (f : Nat → Nat → Int) (at' : Nat) (b : Int) (i j : Nat) : Int := (f i j * f at' at' - f i at' * f at' j).fdiv b
def Fj (f : Nat → Nat → Int) (a : Nat) (b : Int) (i k : Nat) : Nat → Nat → Int := fun i' j' => if i' = i ∧ a < j' ∧ j' < a + 1 + k then el f a b i' j' else f i' j'
def Fi (f : Nat → Nat → Int) (a : Nat) (b : Int) (k : Nat) : Nat → Nat → Int := fun i' j' => if a < i' ∧ i' < a + 1 + k ∧ a < j' then el f a b i' j' else f i' j'
structure OkF (n B : Nat) (f : Nat → Nat → Int) (b : Int) : Prop where
  bd : ∀ i j, Bd B (f i j)
  b0 : b ≠ 0
  bb : Bd B b
theorem divOk_of {B : Nat} {x b : Int} (h0 : b ≠ 0) (hb : Bd B b) (hB : B < 9000) : divOk x b = true := decide_eq_true ⟨h0, Nat.lt_of_le_of_lt (sz_le hb) hB⟩
theorem Fj_bd {f : Nat → Nat → Int} {a : Nat} {b : Int} {i k : Nat} {i' j' : Nat} : Fj f a b i k i' j' = el f a b i' j' ∨ Fj f a b i k i' j' = f i' j' := by
  unfold Fj
  split
  · exact .inl rfl
  · exact .inr rfl
theorem fj_step {n B a i k : Nat} {f : Nat → Nat → Int} {b : Int} (R S P O7 O8 : Option T) (sg : Int) (ok : OkF n B f b) (hB : B < 4000) (ha : a < n) (hi : a < i) (hin : i < n) (hk : a + 1 + k < n) :
    LfOk (sName 8) b_determinant_of_f0 (.int ((a + 1 + k : Nat) : Int)) [R, some (mTr n n (Fj f a b i k)), some (.fz (.int (n : Int))), S, some (.fz (.int b)), some (.fz (.int (a : Int))), P, some (.fz (.int (i : Int))), O8, none]
      [R, some (mTr n n (Fj f a b i (k + 1))), some (.fz (.int (n : Int))), S, some (.fz (.int b)), some (.fz (.int (a : Int))), P, some (.fz (.int (i : Int))), some (.fz (.int ((a + 1 + k : Nat) : Int))), none] := by
  have g1 := atI_range (n := n) (g := fun i' => D.lst (tR n (Fj f a b i k i'))) hin
  have g2 := atI_range (n := n) (g := fun i' => D.lst (tR n (Fj f a b i k i'))) ha
  have g3 := atI_range (n := n) (g := fun j' => D.int (Fj f a b i k i j')) hk
  have g4 := atI_range (n := n) (g := fun j' => D.int (Fj f a b i k a j')) ha
  have g5 := atI_range (n := n) (g := fun j' => D.int (Fj f a b i k i j')) ha
  have g6 := atI_range (n := n) (g := fun j' => D.int (Fj f a b i k a j')) hk
  have v1 : Fj f a b i k i (a + 1 + k) = f i (a + 1 + k) := by unfold Fj; rw [if_neg (by omega)]
  have v2 : Fj f a b i k a a = f a a := by unfold Fj; rw [if_neg (by omega)]
  have v3 : Fj f a b i k i a = f i a := by unfold Fj; rw [if_neg (by omega)]
  have v4 : Fj f a b i k a (a + 1 + k) = f a (a + 1 + k) := by unfold Fj; rw [if_neg (by omega)]
  have m1 : mulOk (f i (a + 1 + k)) (f a a) = true := Bd.mulOk (ok.bd _ _) (ok.bd _ _) (by omega)
  have m2 : mulOk (f i a) (f a (a + 1 + k)) = true := Bd.mulOk (ok.bd _ _) (ok.bd _ _) (by omega)
  have dv : ∀ x, divOk x b = true := fun x => divOk_of ok.b0 ok.bb (by omega)
  have i1 := ixN_nat hin
  have i2 := ixN_nat hk
  have pt := put_tab (f := Fj f a b i k) (v := el f a b i (a + 1 + k)) hin hk
  have e : mTr n n (upF (Fj f a b i k) i (a + 1 + k) (el f a b i (a + 1 + k))) = mTr n n (Fj f a b i (k + 1)) := mTr_congr fun i' j' _ _ => by
    unfold upF Fj
    by_cases h1 : i' = i
    · subst h1
      by_cases h2 : j' = a + 1 + k
      · subst h2
        rw [if_pos ⟨rfl, rfl⟩, if_pos (by omega)]
      · rw [if_neg (by omega)]
        by_cases h3 : a < j' ∧ j' < a + 1 + k
        · rw [if_pos ⟨rfl, h3⟩, if_pos (by omega)]
        · rw [if_neg (by omega), if_neg (by omega)]
    · rw [if_neg (by omega), if_neg (by omega), if_neg (by omega)]
  have gi : ((List.range n).map fun i' => T.lst ((List.range n).map fun j => .fz (.int (Fj f a b i k i' j))))[i]? = some (T.lst ((List.range n).map fun j => .fz (.int (Fj f a b i k i j)))) := by
    rw [List.getElem?_map, List.getElem?_range hin]; rfl
  have push : ((a : Int) + 1 + (k : Int)) = ((a + 1 + k : Nat) : Int) := by push_cast; rfl
  have val : fRo (fBin gFdiv (fBin gSub (fBin gMul (fBin gIx (fBin gIx (fVar 1) (fVar 7)) (fVar 8)) (fBin gIx (fBin gIx (fVar 1) (fVar 5)) (fVar 5))) (fBin gMul (fBin gIx (fBin gIx (fVar 1) (fVar 7)) (fVar 5)) (fBin gIx (fBin gIx (fVar 1) (fVar 5)) (fVar 8)))) (fVar 4)) [R, some (mTr n n (Fj f a b i k)), some (.fz (.int (n : Int))), S, some (.fz (.int b)), some (.fz (.int (a : Int))), P, some (.fz (.int (i : Int))), some (.fz (.int ((a + 1 + k : Nat) : Int))), none]
      = .ok (.fz (.int (el f a b i (a + 1 + k)))) [R, some (mTr n n (Fj f a b i k)), some (.fz (.int (n : Int))), S, some (.fz (.int b)), some (.fz (.int (a : Int))), P, some (.fz (.int (i : Int))), some (.fz (.int ((a + 1 + k : Nat) : Int))), none] := by
    have fe : frzE [R, some (mTr n n (Fj f a b i k)), some (.fz (.int (n : Int))), S, some (.fz (.int b)), some (.fz (.int (a : Int))), P, some (.fz (.int (i : Int))), some (.fz (.int ((a + 1 + k : Nat) : Int))), none]
        = [R.map (fun t => .fz (frz t)), some (.fz (.lst ((List.range n).map fun i' => .lst (tR n (Fj f a b i k i'))))), some (.fz (.int (n : Int))), S.map (fun t => .fz (frz t)), some (.fz (.int b)), some (.fz (.int (a : Int))), P.map (fun t => .fz (frz t)), some (.fz (.int (i : Int))), some (.fz (.int ((a + 1 + k : Nat) : Int))), none] := by
      simp [frzE_cons, frzs_range]
    unfold fRo
    rw [fe]
    simp [-Int.natCast_add, g1, g2, g3, g4, g5, g6, v1, v2, v3, v4, m1, m2, dv, el]
  unfold LfOk b_determinant_of_f0
  simp only [sName, List.set, fAsg]
  rw [val]
  simp [-Int.natCast_add, i1, i2, gi]
  exact T.lst.inj (pt.trans e)
theorem r2n {a n : Nat} (ha : a < 2 ^ 61) (hn : n < 2 ^ 61) : range2D [.int ((a : Int) + 1), .int (n : Int)] = some ((List.range (n - (a + 1))).map fun k => .int ((a + 1 + k : Nat) : Int)) := by
  have := range2_nat (i := a + 1) (j := n) (by omega) (by omega)
  rw [rangeD_nat] at this
  have e : (((a + 1 : Nat) : Int)) = (a : Int) + 1 := by push_cast; rfl
  rw [e] at this
  exact this
theorem fj_loop {n B a i : Nat} {f : Nat → Nat → Int} {b : Int} (R S P O8 : Option T) (ok : OkF n B f b) (hB : B < 4000) (ha : a < n) (hi : a < i) (hin : i < n) (hn : n < 1000) :
    ∃ O8', b_determinant_of_f1 [R, some (mTr n n f), some (.fz (.int (n : Int))), S, some (.fz (.int b)), some (.fz (.int (a : Int))), P, some (.fz (.int (i : Int))), O8, none]
      = .nx [R, some (mTr n n (Fj f a b i (n - (a + 1)))), some (.fz (.int (n : Int))), S, some (.fz (.int b)), some (.fz (.int (a : Int))), P, some (.fz (.int (i : Int))), O8', none] := by
  have l := lf_tab (set := sName 8) (b := b_determinant_of_f0) (n := n - (a + 1)) (dk := fun k => .int ((a + 1 + k : Nat) : Int))
    (fun k => [R, some (mTr n n (Fj f a b i k)), some (.fz (.int (n : Int))), S, some (.fz (.int b)), some (.fz (.int (a : Int))), P, some (.fz (.int (i : Int))), (if k = 0 then O8 else some (.fz (.int ((a + 1 + (k - 1) : Nat) : Int)))), none])
    (fun k hk => by
      have := fj_step (n := n) (B := B) (a := a) (i := i) (k := k) (f := f) (b := b) R S P none (if k = 0 then O8 else some (.fz (.int ((a + 1 + (k - 1) : Nat) : Int)))) 0 ok hB ha hi hin (by omega)
      simpa using this)
  have r := r2n (a := a) (n := n) (by omega) (by omega)
  have f0 : mTr n n (Fj f a b i 0) = mTr n n f := mTr_congr fun i' j' _ _ => by unfold Fj; rw [if_neg (by omega)]
  simp only [f0, if_true] at l
  refine ⟨_, Eq.trans ?_ l⟩
  unfold b_determinant_of_f1
  simp [r]
theorem fdiv_abs {x b : Int} (h : b ≠ 0) : (x.fdiv b).natAbs ≤ x.natAbs + 1 := by
  have := fdiv_facts (x := x) h
  have hb : 1 ≤ b.natAbs := by omega
  rcases Nat.lt_or_ge (x.natAbs + 1) (x.fdiv b).natAbs with h1 | h1
  · have h2 : (x.natAbs + 2) * b.natAbs ≤ (x.fdiv b).natAbs * b.natAbs := Nat.mul_le_mul_right _ h1
    have h3 : (x.natAbs + 2) * b.natAbs = x.natAbs * b.natAbs + 2 * b.natAbs := by rw [Nat.add_mul]
    have h4 : x.natAbs * 1 ≤ x.natAbs * b.natAbs := Nat.mul_le_mul_left _ hb
    omega
  · exact h1
theorem el_bd {n B a i j : Nat} {f : Nat → Nat → Int} {b : Int} (ok : OkF n B f b) : Bd (2 * B + 2) (el f a b i j) := by
  unfold el
  have h1 := Bd.sub (Bd.mul (ok.bd i j) (ok.bd a a)) (Bd.mul (ok.bd i a) (ok.bd a j))
  have h2 := fdiv_abs (x := f i j * f a a - f i a * f a j) ok.b0
  unfold Bd at h1 ⊢
  have e : 2 ^ (2 * B + 2) = 2 * 2 ^ (B + B + 1) := by
    rw [show 2 * B + 2 = (B + B + 1) + 1 by omega, Nat.pow_succ]; omega
  have := Nat.pow_pos (n := B + B + 1) (show 0 < 2 by decide)
  omega
theorem Fi_ok {n B a k : Nat} {f : Nat → Nat → Int} {b : Int} (ok : OkF n B f b) : OkF n (2 * B + 2) (Fi f a b k) b := by
  refine ⟨fun i j => ?_, ok.b0, ok.bb.mono (by omega)⟩
  unfold Fi
  split
  · exact el_bd ok
  · exact (ok.bd i j).mono (by omega)
theorem fi_loop {n B a : Nat} {f : Nat → Nat → Int} {b : Int} (R S P O7 O8 : Option T) (ok : OkF n B f b) (hB : B < 1900) (ha : a < n) (hn : n < 1000) :
    ∃ O7' O8', loopF (sName 7) b_determinant_of_f1 ((List.range (n - (a + 1))).map fun k => .int ((a + 1 + k : Nat) : Int)) [R, some (mTr n n f), some (.fz (.int (n : Int))), S, some (.fz (.int b)), some (.fz (.int (a : Int))), P, O7, O8, none]
      = .nx [R, some (mTr n n (Fi f a b (n - (a + 1)))), some (.fz (.int (n : Int))), S, some (.fz (.int b)), some (.fz (.int (a : Int))), P, O7', O8', none] := by
  have gen : ∀ (m k : Nat) (O7 O8 : Option T), k + m = n - (a + 1) → ∃ O7' O8', loopF (sName 7) b_determinant_of_f1 ((List.range' k m).map fun k => .int ((a + 1 + k : Nat) : Int)) [R, some (mTr n n (Fi f a b k)), some (.fz (.int (n : Int))), S, some (.fz (.int b)), some (.fz (.int (a : Int))), P, O7, O8, none]
      = .nx [R, some (mTr n n (Fi f a b (n - (a + 1)))), some (.fz (.int (n : Int))), S, some (.fz (.int b)), some (.fz (.int (a : Int))), P, O7', O8', none] := by
    intro m
    induction m with
    | zero =>
      intro k O7 O8 hk
      have : k = n - (a + 1) := by omega
      subst this
      exact ⟨O7, O8, rfl⟩
    | succ m ih =>
      intro k O7 O8 hk
      obtain ⟨O8', e⟩ := fj_loop (n := n) (B := 2 * B + 2) (a := a) (i := a + 1 + k) (f := Fi f a b k) (b := b) R S P O8 (Fi_ok ok) (by omega) ha (by omega) (by omega) hn
      have e2 : mTr n n (Fj (Fi f a b k) a b (a + 1 + k) (n - (a + 1))) = mTr n n (Fi f a b (k + 1)) := mTr_congr fun i' j' hi hj => by
        unfold Fj
        by_cases h1 : i' = a + 1 + k
        · subst h1
          by_cases h2 : a < j'
          · rw [if_pos (by omega)]
            have c1 : Fi f a b k (a + 1 + k) j' = f (a + 1 + k) j' := by unfold Fi; rw [if_neg (by omega)]
            have c2 : Fi f a b k a a = f a a := by unfold Fi; rw [if_neg (by omega)]
            have c3 : Fi f a b k (a + 1 + k) a = f (a + 1 + k) a := by unfold Fi; rw [if_neg (by omega)]
            have c4 : Fi f a b k a j' = f a j' := by unfold Fi; rw [if_neg (by omega)]
            have c5 : Fi f a b (k + 1) (a + 1 + k) j' = el f a b (a + 1 + k) j' := by unfold Fi; rw [if_pos (by omega)]
            rw [c5]
            unfold el
            rw [c1, c2, c3, c4]
          · rw [if_neg (by omega)]
            unfold Fi
            rw [if_neg (by omega), if_neg (by omega)]
        · rw [if_neg (by omega)]
          unfold Fi
          by_cases h2 : a < i' ∧ i' < a + 1 + k ∧ a < j'
          · rw [if_pos h2, if_pos (by omega)]
          · rw [if_neg h2, if_neg (by omega)]
      rw [e2] at e
      obtain ⟨p, q, r⟩ := ih (k + 1) (some (.fz (.int ((a + 1 + k : Nat) : Int)))) O8' (by omega)
      refine ⟨p, q, ?_⟩
      rw [List.range'_succ, List.map_cons]
      rw [loopF_go (e := [R, some (mTr n n (Fi f a b k)), some (.fz (.int (n : Int))), S, some (.fz (.int b)), some (.fz (.int (a : Int))), P, some (.fz (.int ((a + 1 + k : Nat) : Int))), O8, none]) (by rfl) e]
      exact r
  obtain ⟨p, q, r⟩ := gen (n - (a + 1)) 0 O7 O8 (by omega)
  have f0 : mTr n n (Fi f a b 0) = mTr n n f := mTr_congr fun i' j' _ _ => by unfold Fi; rw [if_neg (by omega)]
  rw [f0] at r
  refine ⟨p, q, ?_⟩
  rw [List.range_eq_range']
  exact r
/-! the pivot -/
def pv (f : Nat → Nat → Int) (a : Nat) : Nat → Nat → Nat
  | 0, p => p
  | m + 1, p => if f p a = 0 then pv f a m (p + 1) else p
theorem pv_ge (f : Nat → Nat → Int) (a : Nat) : ∀ m p, p ≤ pv f a m p ∧ pv f a m p ≤ p + m
  | 0, p => ⟨Nat.le_refl _, Nat.le_refl _⟩
  | m + 1, p => by
    unfold pv
    have := pv_ge f a m (p + 1)
    split <;> omega
theorem pv_ne (f : Nat → Nat → Int) (a : Nat) : ∀ m p, pv f a m p < p + m → f (pv f a m p) a ≠ 0
  | 0, p, h => by simp [pv] at h
  | m + 1, p, h => by
    unfold pv at h ⊢
    split
    · rename_i h0
      rw [if_pos h0] at h
      exact pv_ne f a m (p + 1) (by omega)
    · assumption
theorem pv_zero (f : Nat → Nat → Int) (a : Nat) : ∀ m p q, p ≤ q → q < pv f a m p → f q a = 0
  | 0, p, q, h1, h2 => by simp [pv] at h2; omega
  | m + 1, p, q, h1, h2 => by
    unfold pv at h2
    split at h2
    · rename_i h0
      by_cases e : q = p
      · rw [e]; exact h0
      · exact pv_zero f a m (p + 1) q (by omega) h2
    · omega
theorem pv_loop {n a : Nat} {f : Nat → Nat → Int} (R S B4 O7 O8 : Option T) (ha : a < n) (hn : n < 1000) : ∀ (m p g : Nat), p + m = n → m < g →
    loopW b_determinant_of_c0 b_determinant_of_w0 g [R, some (mTr n n f), some (.fz (.int (n : Int))), S, B4, some (.fz (.int (a : Int))), some (.fz (.int (p : Int))), O7, O8, none]
      = .nx [R, some (mTr n n f), some (.fz (.int (n : Int))), S, B4, some (.fz (.int (a : Int))), some (.fz (.int (pv f a m p : Int))), O7, O8, none] := by
  have fe : ∀ p : Int, frzE [R, some (mTr n n f), some (.fz (.int (n : Int))), S, B4, some (.fz (.int (a : Int))), some (.fz (.int p)), O7, O8, none]
      = [R.map (fun t => .fz (frz t)), some (.fz (.lst ((List.range n).map fun i' => .lst (tR n (f i'))))), some (.fz (.int (n : Int))), S.map (fun t => .fz (frz t)), B4.map (fun t => .fz (frz t)), some (.fz (.int (a : Int))), some (.fz (.int p)), O7.map (fun t => .fz (frz t)), O8.map (fun t => .fz (frz t)), none] := fun p => by
    simp [frzE_cons, frzs_range]
  intro m
  induction m with
  | zero =>
    intro p g hp hg
    obtain ⟨g, rfl⟩ : ∃ k, g = k + 1 := ⟨g - 1, by omega⟩
    have hpn : p = n := by omega
    subst hpn
    refine loopW_end ?_
    unfold b_determinant_of_c0 fRoT
    rw [fe]
    simp [pv]
  | succ m ih =>
    intro p g hp hg
    obtain ⟨g, rfl⟩ : ∃ k, g = k + 1 := ⟨g - 1, by omega⟩
    have hpn : p < n := by omega
    have g1 := atI_range (n := n) (g := fun i' => D.lst (tR n (f i'))) hpn
    have g2 := atI_range (n := n) (g := fun j' => D.int (f p j')) ha
    have c : b_determinant_of_c0 [R, some (mTr n n f), some (.fz (.int (n : Int))), S, B4, some (.fz (.int (a : Int))), some (.fz (.int (p : Int))), O7, O8, none] = .ok (decide (f p a = 0)) [R, some (mTr n n f), some (.fz (.int (n : Int))), S, B4, some (.fz (.int (a : Int))), some (.fz (.int (p : Int))), O7, O8, none] := by
      unfold b_determinant_of_c0 fRoT
      rw [fe]
      simp [hpn, g1, g2]
    by_cases h0 : f p a = 0
    · rw [decide_eq_true h0] at c
      rw [loopW_go c (e' := [R, some (mTr n n f), some (.fz (.int (n : Int))), S, B4, some (.fz (.int (a : Int))), some (.fz (.int ((p + 1 : Nat) : Int))), O7, O8, none]) (by simp [b_determinant_of_w0])]
      rw [ih (p + 1) g (by omega) (by omega)]
      rw [show pv f a (m + 1) p = if f p a = 0 then pv f a m (p + 1) else p from rfl, if_pos h0]
    · rw [decide_eq_false h0] at c
      rw [loopW_end c, show pv f a (m + 1) p = if f p a = 0 then pv f a m (p + 1) else p from rfl, if_neg h0]
/-! ### the whole -/
def swF (f : Nat → Nat → Int) (a p : Nat) : Nat → Nat → Int := fun i j => if i = a then f p j else if i = p then f a j else f i j
def bar (n : Nat) : Nat → Nat → (Nat → Nat → Int) → Int → Int → Int
  | 0, _, f, s, _ => s * f (n - 1) (n - 1)
  | m + 1, a, f, s, b => let p := pv f a (n - a) a
    if p = n then 0 else if p = a then bar n m (a + 1) (Fi f a b (n - (a + 1))) s (f a a) else bar n m (a + 1) (Fi (swF f a p) a b (n - (a + 1))) (-s) (f p a)
def bB (B : Nat) : Nat → Nat
  | 0 => B
  | k + 1 => 2 * bB B k + 2
theorem swap_tab {n a p : Nat} {f : Nat → Nat → Int} (ha : a < n) (hp : p < n) (hap : p ≠ a) :
    (((List.range n).map fun i => T.lst ((List.range n).map fun j => .fz (.int (f i j)))).set a (.lst ((List.range n).map fun j => T.fz (.int (f p j))))).set p (.lst ((List.range n).map fun j => T.fz (.int (f a j)))) = (List.range n).map fun i => T.lst ((List.range n).map fun j => .fz (.int (swF f a p i j))) := by
  rw [set_tab ha, set_tab hp]
  refine List.map_congr_left fun i _ => ?_
  by_cases e : i = p
  · subst e
    rw [if_pos rfl]
    refine congrArg T.lst (List.map_congr_left fun j _ => ?_)
    simp [swF, hap]
  · rw [if_neg e]
    by_cases e2 : i = a
    · subst e2
      rw [if_pos rfl]
      refine congrArg T.lst (List.map_congr_left fun j _ => ?_)
      simp [swF]
    · rw [if_neg e2]
      refine congrArg T.lst (List.map_congr_left fun j _ => ?_)
      simp [swF, e, e2]
theorem swF_ok {n B a p : Nat} {f : Nat → Nat → Int} {b : Int} (ok : OkF n B f b) : OkF n B (swF f a p) b := by
  refine ⟨fun i j => ?_, ok.b0, ok.bb⟩
  unfold swF
  split
  · exact ok.bd _ _
  · split
    · exact ok.bd _ _
    · exact ok.bd _ _
/-- one turn -/
theorem turn_eq {n B a : Nat} {f : Nat → Nat → Int} {b s : Int} (R P O7 O8 : Option T) (ok : OkF n B f b) (hB : B < 1900) (ha : a < n) (hn : n < 9) :
    (pv f a (n - a) a = n ∧ ∃ e', b_determinant_of_f2 [R, some (mTr n n f), some (.fz (.int (n : Int))), some (.fz (.int s)), some (.fz (.int b)), some (.fz (.int (a : Int))), P, O7, O8, none] = .rt (.fz (.int 0)) e') ∨
    (pv f a (n - a) a ≠ n ∧ ∃ P' O7' O8' : Option T, ∃ s' : Int, ∃ f' : Nat → Nat → Int, (if pv f a (n - a) a = a then s' = s ∧ f' = f else s' = -s ∧ f' = swF f a (pv f a (n - a) a)) ∧
      b_determinant_of_f2 [R, some (mTr n n f), some (.fz (.int (n : Int))), some (.fz (.int s)), some (.fz (.int b)), some (.fz (.int (a : Int))), P, O7, O8, none]
        = .nx [R, some (mTr n n (Fi f' a b (n - (a + 1)))), some (.fz (.int (n : Int))), some (.fz (.int s')), some (.fz (.int (f' a a))), some (.fz (.int (a : Int))), P', O7', O8', none]) := by
  have w := pv_loop (n := n) (a := a) (f := f) R (some (.fz (.int s))) (some (.fz (.int b))) O7 O8 ha (by omega) (n - a) a 10 (by omega) (by omega)
  have hge := pv_ge f a (n - a) a
  generalize hp : pv f a (n - a) a = p at *
  have r := r2n (a := a) (n := n) (by omega) (by omega)
  have fin : ∀ (f' : Nat → Nat → Int) (s' : Int) (P7 P8 P6 : Option T), fSet 4 (fRo (fBin gIx (fBin gIx (fVar 1) (fVar 5)) (fVar 5))) [R, some (mTr n n (Fi f' a b (n - (a + 1)))), some (.fz (.int (n : Int))), some (.fz (.int s')), some (.fz (.int b)), some (.fz (.int (a : Int))), P6, P7, P8, none]
      = .nx [R, some (mTr n n (Fi f' a b (n - (a + 1)))), some (.fz (.int (n : Int))), some (.fz (.int s')), some (.fz (.int (f' a a))), some (.fz (.int (a : Int))), P6, P7, P8, none] := fun f' s' P7 P8 P6 => by
    have g1 := atI_range (n := n) (g := fun i' => D.lst (tR n (Fi f' a b (n - (a + 1)) i'))) ha
    have g2 := atI_range (n := n) (g := fun j' => D.int (Fi f' a b (n - (a + 1)) a j')) ha
    have v : Fi f' a b (n - (a + 1)) a a = f' a a := by unfold Fi; rw [if_neg (by omega)]
    have fe : frzE [R, some (mTr n n (Fi f' a b (n - (a + 1)))), some (.fz (.int (n : Int))), some (.fz (.int s')), some (.fz (.int b)), some (.fz (.int (a : Int))), P6, P7, P8, none]
        = [R.map (fun t => .fz (frz t)), some (.fz (.lst ((List.range n).map fun i' => .lst (tR n (Fi f' a b (n - (a + 1)) i'))))), some (.fz (.int (n : Int))), some (.fz (.int s')), some (.fz (.int b)), some (.fz (.int (a : Int))), P6.map (fun t => .fz (frz t)), P7.map (fun t => .fz (frz t)), P8.map (fun t => .fz (frz t)), none] := by
      simp [frzE_cons, frzs_range]
    unfold fSet fRo
    rw [fe]
    simp [g1, g2, v]
  by_cases hpn : p = n
  · refine .inl ⟨hpn, ?_⟩
    rw [hpn] at w
    refine ⟨[R, some (mTr n n f), some (.fz (.int (n : Int))), some (.fz (.int s)), some (.fz (.int b)), some (.fz (.int (a : Int))), some (.fz (.int (n : Int))), O7, O8, none], ?_⟩
    unfold b_determinant_of_f2
    simp [w]
  · refine .inr ⟨hpn, ?_⟩
    have hpl : p < n := by omega
    by_cases hpa : p = a
    · rw [hpa] at w
      obtain ⟨O7', O8', l⟩ := fi_loop (n := n) (B := B) (a := a) (f := f) (b := b) R (some (.fz (.int s))) (some (.fz (.int (a : Int)))) O7 O8 ok (by omega) ha (by omega)
      refine ⟨some (.fz (.int (a : Int))), O7', O8', s, f, by rw [if_pos hpa]; exact ⟨rfl, rfl⟩, ?_⟩
      have nn : ¬ (a : Int) = n := by omega
      unfold b_determinant_of_f2
      simp [-fSet, -Int.natCast_add, fSet.eq_1 6, w, nn, r, l, fin]
    · obtain ⟨O7', O8', l⟩ := fi_loop (n := n) (B := B) (a := a) (f := swF f a p) (b := b) R (some (.fz (.int (-s)))) (some (.fz (.int (p : Int)))) O7 O8 (swF_ok ok) (by omega) ha (by omega)
      refine ⟨some (.fz (.int (p : Int))), O7', O8', -s, swF f a p, by rw [if_neg hpa]; exact ⟨rfl, rfl⟩, ?_⟩
      have nn : ¬ (p : Int) = n := by omega
      have na : ¬ (p : Int) = a := by omega
      have i1 := ixN_nat ha
      have i2 := ixN_nat hpl
      have st := swap_tab (f := f) ha hpl hpa
      have gp : ((List.range n).map fun i' => T.lst ((List.range n).map fun j => .fz (.int (f i' j))))[p]? = some (T.lst ((List.range n).map fun j => .fz (.int (f p j)))) := by
        rw [List.getElem?_map, List.getElem?_range hpl]; rfl
      have ga : ((List.range n).map fun i' => T.lst ((List.range n).map fun j => .fz (.int (f i' j))))[a]? = some (T.lst ((List.range n).map fun j => .fz (.int (f a j)))) := by
        rw [List.getElem?_map, List.getElem?_range ha]; rfl
      unfold b_determinant_of_f2
      simp [-fSet, -Int.natCast_add, fSet.eq_1 6, fSet.eq_1 3, w, nn, na, r, i1, i2, gp, ga, st, l, fin]
theorem bar_loop {n B : Nat} (hn : n < 9) (R : Option T) : ∀ (m a : Nat) (f : Nat → Nat → Int) (s b : Int) (O5 P O7 O8 : Option T), a + m = n - 1 → OkF n (bB B a) f b → (∀ k, k ≤ n → bB B k < 1900) → s.natAbs = 1 →
    (∃ e', loopF (sName 5) b_determinant_of_f2 ((List.range' a m).map fun (k : Nat) => .int (k : Int)) [R, some (mTr n n f), some (.fz (.int (n : Int))), some (.fz (.int s)), some (.fz (.int b)), O5, P, O7, O8, none] = .rt (.fz (.int (bar n m a f s b))) e') ∨
    (∃ f' s' b', ∃ O5' P' O7' O8' : Option T, loopF (sName 5) b_determinant_of_f2 ((List.range' a m).map fun (k : Nat) => .int (k : Int)) [R, some (mTr n n f), some (.fz (.int (n : Int))), some (.fz (.int s)), some (.fz (.int b)), O5, P, O7, O8, none]
      = .nx [R, some (mTr n n f'), some (.fz (.int (n : Int))), some (.fz (.int s')), some (.fz (.int b')), O5', P', O7', O8', none] ∧ bar n m a f s b = s' * f' (n - 1) (n - 1) ∧ (∀ i j, Bd 1900 (f' i j)) ∧ s'.natAbs = 1) := by
  intro m
  induction m with
  | zero =>
    intro a f s b O5 P O7 O8 ha ok hb hs
    exact .inr ⟨f, s, b, O5, P, O7, O8, rfl, rfl, fun i j => (ok.bd i j).mono (Nat.le_of_lt (hb a (by omega))), hs⟩
  | succ m ih =>
    intro a f s b O5 P O7 O8 ha ok hb hs
    have han : a < n := by omega
    rw [List.range'_succ, List.map_cons]
    have e0 : sName 5 (.fz (.int (a : Int))) [R, some (mTr n n f), some (.fz (.int (n : Int))), some (.fz (.int s)), some (.fz (.int b)), O5, P, O7, O8, none] = some [R, some (mTr n n f), some (.fz (.int (n : Int))), some (.fz (.int s)), some (.fz (.int b)), some (.fz (.int (a : Int))), P, O7, O8, none] := rfl
    rcases turn_eq (n := n) (B := bB B a) (a := a) (f := f) (b := b) (s := s) R P O7 O8 ok (hb a (by omega)) han hn with ⟨hp, e', h⟩ | ⟨hp, P', O7', O8', s', f', hc, h⟩
    · refine .inl ⟨e', ?_⟩
      have : bar n (m + 1) a f s b = 0 := by
        unfold bar
        simp only [hp, if_true]
      rw [this]
      unfold loopF
      rw [e0]
      simp only [h]
    · rw [loopF_go e0 h]
      have hge := pv_ge f a (n - a) a
      have pn := pv_ne f a (n - a) a
      generalize hq : pv f a (n - a) a = p at *
      have ok' : OkF n (bB B a) f' b ∧ f' a a ≠ 0 ∧ s'.natAbs = 1 ∧ bar n (m + 1) a f s b = bar n m (a + 1) (Fi f' a b (n - (a + 1))) s' (f' a a) := by
        by_cases hpa : p = a
        · rw [if_pos hpa] at hc
          obtain ⟨rfl, rfl⟩ := hc
          refine ⟨ok, by have := pn (by omega); rwa [hpa] at this, hs, ?_⟩
          show (let p := pv f' a (n - a) a; if p = n then 0 else if p = a then bar n m (a + 1) (Fi f' a b (n - (a + 1))) s' (f' a a) else bar n m (a + 1) (Fi (swF f' a p) a b (n - (a + 1))) (-s') (f' p a)) = _
          simp only [hq]
          rw [if_neg hp, if_pos hpa]
        · rw [if_neg hpa] at hc
          obtain ⟨rfl, rfl⟩ := hc
          have v : swF f a p a a = f p a := by simp [swF]
          refine ⟨swF_ok ok, by rw [v]; exact pn (by omega), by omega, ?_⟩
          show (let p := pv f a (n - a) a; if p = n then 0 else if p = a then bar n m (a + 1) (Fi f a b (n - (a + 1))) s (f a a) else bar n m (a + 1) (Fi (swF f a p) a b (n - (a + 1))) (-s) (f p a)) = _
          simp only [hq]
          rw [if_neg hp, if_neg hpa, v]
      obtain ⟨o1, o2, o3, o4⟩ := ok'
      have okF : OkF n (bB B (a + 1)) (Fi f' a b (n - (a + 1))) (f' a a) := ⟨(Fi_ok o1).bd, o2, (o1.bd a a).mono (by show _ ≤ 2 * bB B a + 2; omega)⟩
      rw [o4]
      exact ih (a + 1) _ s' (f' a a) _ P' O7' O8' (by omega) okF hb o3
/-- the determinant as the program reckons it -/
def detB (n : Nat) (f : Nat → Nat → Int) : Int := bar n (n - 1) 0 f 1 1
theorem det_eq {n B : Nat} {d : D} {k : Nat → Bool} {f : Nat → Nat → Int} (hd : d = .lst (mK k n n f) ∨ d = .tup (mK k n n f)) (h0 : 0 < n) (hn : n < 9) (hf : ∀ i j, Bd B (f i j)) (hb : ∀ k, k ≤ n → bB B k < 1900) (hB : 0 < B) :
    m_determinant_of [.fz d] = .ok (.fz (.int (detB n f))) [] := by
  have l := lc_tab (set := sName 9) (elt := b_determinant_of_e0) (vs := [9]) (n := n) (dk := fun i => rK (k i) (tR n (f i))) (g := fun i => .lst ((List.range n).map fun j => .fz (.int (f i j)))) (env := [some (.fz d), none, none, none, none, none, none, none, none, none]) (by omega) (fun i hi => by
    cases hk : k i <;> simp [LcOk, b_determinant_of_e0, rK])
  have r1 : range1D [.int ((n : Int) - 1)] = some ((List.range' 0 (n - 1)).map fun (k : Nat) => .int (k : Int)) := by
    have e : (n : Int) - 1 = ((n - 1 : Nat) : Int) := by omega
    rw [e, range1_nat (by omega)]
    unfold rangeD
    rw [List.range_eq_range']
    simp
  have ok : OkF n (bB B 0) f 1 := ⟨hf, by decide, by
    unfold Bd
    have : 2 ^ 1 ≤ 2 ^ B := Nat.pow_le_pow_right (by decide) hB
    show 1 < 2 ^ B
    omega⟩
  have lp := bar_loop (n := n) (B := B) hn (some (.fz d)) (n - 1) 0 f 1 1 none none none none (by omega) ok hb (by decide)
  have key : b_determinant_of [some (.fz d), none, none, none, none, none, none, none, none, none] = fSeq (fFor (iArgs range1D (fCons (fBin gSub (fVar 2) (fC (.int 1))) (fNil))) (sName 5) b_determinant_of_f2) (fRet (fRo (fBin gMul (fVar 3) (fBin gIx (fBin gIx (fVar 1) (fBin gSub (fVar 2) (fC (.int 1)))) (fBin gSub (fVar 2) (fC (.int 1))))))) [some (.fz d), some (mTr n n f), some (.fz (.int (n : Int))), some (.fz (.int 1)), some (.fz (.int 1)), none, none, none, none, none] := by
    unfold b_determinant_of
    rcases hd with rfl | rfl <;> simp [-fFor, -fRo, -fRet, l, frzs_len]
  have kf : fFor (iArgs range1D (fCons (fBin gSub (fVar 2) (fC (.int 1))) (fNil))) (sName 5) b_determinant_of_f2 [some (.fz d), some (mTr n n f), some (.fz (.int (n : Int))), some (.fz (.int 1)), some (.fz (.int 1)), none, none, none, none, none]
      = loopF (sName 5) b_determinant_of_f2 ((List.range' 0 (n - 1)).map fun (k : Nat) => .int (k : Int)) [some (.fz d), some (mTr n n f), some (.fz (.int (n : Int))), some (.fz (.int 1)), some (.fz (.int 1)), none, none, none, none, none] := by
    simp [r1]
  have st : m_determinant_of [.fz d] = finF [] (b_determinant_of [some (.fz d), none, none, none, none, none, none, none, none, none]) := rfl
  rw [st, key]
  unfold fSeq
  rw [kf]
  rcases lp with ⟨e', h⟩ | ⟨f', s', b', O5', P', O7', O8', h, hv, hbd, hs⟩
  · rw [h]; rfl
  · rw [h]
    have hl : n - 1 < n := by omega
    have g1 := atI_range (n := n) (g := fun i' => D.lst (tR n (f' i'))) hl
    have g2 := atI_range (n := n) (g := fun j' => D.int (f' (n - 1) j')) hl
    have e : (n : Int) - 1 = ((n - 1 : Nat) : Int) := by omega
    have mo : mulOk s' (f' (n - 1) (n - 1)) = true := Bd.mulOk (a := 1) (b := 1900) (by unfold Bd; omega) (hbd _ _) (by decide)
    have fe : frzE [some (.fz d), some (mTr n n f'), some (.fz (.int (n : Int))), some (.fz (.int s')), some (.fz (.int b')), O5', P', O7', O8', none]
        = [some (.fz d), some (.fz (.lst ((List.range n).map fun i' => .lst (tR n (f' i'))))), some (.fz (.int (n : Int))), some (.fz (.int s')), some (.fz (.int b')), O5'.map (fun t => .fz (frz t)), P'.map (fun t => .fz (frz t)), O7'.map (fun t => .fz (frz t)), O8'.map (fun t => .fz (frz t)), none] := by
      simp [frzE_cons, frzs_range]
    show finF [] (fRet (fRo _) _) = _
    unfold fRet fRo
    rw [fe]
    simp [e, g1, g2, mo]
    unfold detB
    exact hv.symm
theorem mdet_eq {n B : Nat} {f : Nat → Nat → Int} (h0 : 0 < n) (hn : n < 9) (hf : ∀ i j, Bd B (f i j)) (hb : ∀ k, k ≤ n → bB B k < 1900) (hB : 0 < B) :
    m_Matrix_determinant [.fz (mOb n n f)] = .ok (.fz (.int (detB n f))) [] := by
  have e := det_eq (d := .tup (mD n n f)) (k := fun _ => true) (.inr (by simp [mK, rK])) h0 hn hf hb hB
  simp [m_Matrix_determinant, b_Matrix_determinant, e]
theorem mdet_ex {h w : Nat} {f : Nat → Nat → Int} (bh : h < 2 ^ 20) (bw : w < 2 ^ 20) (hn : h ≠ w) :
    m_Matrix_determinant [.fz (mOb h w f)] = .ex ⟨5, some (["width", "height"], [.int (w : Int), .int (h : Int)])⟩ [] := by
  have a1 := fmt_nat bh
  have a2 := fmt_nat bw
  have h2' : ¬ (h : Int) = w := by omega
  simp [m_Matrix_determinant, b_Matrix_determinant, h2', a1, a2, fmtD, fmtI]
end DL

set_option maxHeartbeats 4000000
namespace DL
open PySem L2
/-! ### the laws' matrices -/
/-- a comprehension whose items are drawn -/
theorem lc_ex {σ α : Type} {set : T → Env → Option Env} {elt : M T} {vs : List Nat} {n : Nat} {dk : Nat → D} {E : σ → Env} {G : α → T} {P : α → Prop} {Inv : Nat → σ → Prop} (hn : n < 2 ^ 20) (dflt : α)
    (h : ∀ i s, i < n → Inv i s → ∃ x s', LcOkE set elt vs (E s) (dk i) (G x) (E s') ∧ P x ∧ Inv (i + 1) s') (s : σ) (h0 : Inv 0 s) :
    ∃ (g : Nat → α) (s' : σ), loopC set fYes elt vs ((List.range n).map dk) [] (E s) = .ok ((List.range n).map fun i => G (g i)) (E s') ∧ (∀ i, i < n → P (g i)) ∧ (∀ i, n ≤ i → g i = dflt) ∧ Inv n s' := by
  have gen : ∀ (m i : Nat) (acc : List T) (s : σ), i + m = n → acc.length + m ≤ 2 ^ 20 → Inv i s → ∃ (xs : List α) (s' : σ), xs.length = m ∧ loopC set fYes elt vs ((List.range' i m).map dk) acc (E s) = .ok (acc ++ xs.map G) (E s') ∧ (∀ x ∈ xs, P x) ∧ Inv n s' := by
    intro m
    induction m with
    | zero =>
      intro i acc s hi _ hI
      have : i = n := by omega
      subst this
      exact ⟨[], s, rfl, by simp [loopC], by simp, hI⟩
    | succ m ih =>
      intro i acc s hi hl hI
      obtain ⟨x, s1, hk, hP, hI1⟩ := h i s (by omega) hI
      have := big_size
      have hlt : acc.length < sizeLine := by omega
      obtain ⟨xs, s', l1, l2, l3, l4⟩ := ih (i + 1) (acc ++ [G x]) s1 (by omega) (by simp; omega) hI1
      refine ⟨x :: xs, s', by simp [l1], ?_, ?_, l4⟩
      · unfold LcOkE at hk
        rw [List.range'_succ]
        cases e1 : set (.fz (dk i)) (E s) with
        | none => rw [e1] at hk; exact hk.elim
        | some e =>
          rw [e1] at hk
          cases e2 : elt e with
          | no => simp only [e2] at hk
          | ex x e3 => simp only [e2] at hk
          | ok t e3 =>
            simp only [e2] at hk
            obtain ⟨rfl, hw⟩ := hk
            simp only [List.map_cons, loopC, e1, fYes, e2, hw, if_pos hlt, l2]
            simp
      · intro y hy
        rcases List.mem_cons.mp hy with rfl | hy
        · exact hP
        · exact l3 y hy
  obtain ⟨xs, s', l1, l2, l3, l4⟩ := gen n 0 [] s (by omega) (by simp; omega) h0
  refine ⟨fun i => xs.getD i dflt, s', ?_, fun i hi => ?_, fun i hi => ?_, l4⟩
  · rw [List.range_eq_range', l2]
    congr 1
    apply List.ext_getElem?
    intro k
    rw [List.nil_append, List.getElem?_map, List.getElem?_map]
    by_cases hk : k < n
    · have : (List.range' 0 n)[k]? = some k := by rw [List.getElem?_range' hk]; simp
      rw [this, List.getElem?_eq_getElem (by omega)]
      simp [List.getD_eq_getElem?_getD, List.getElem?_eq_getElem (show k < xs.length by omega)]
    · rw [List.getElem?_eq_none (by omega), List.getElem?_eq_none (by simp; omega)]
      rfl
  · have : xs.getD i dflt = xs[i]'(by omega) := by rw [List.getD_eq_getElem?_getD, List.getElem?_eq_getElem (by omega)]; rfl
    show P (xs.getD i dflt)
    rw [this]
    exact l3 _ (List.getElem_mem _)
  · show xs.getD i dflt = dflt
    rw [List.getD_eq_getElem?_getD, List.getElem?_eq_none (by omega)]
    rfl
theorem rg1 {n : Nat} (h : n < 2 ^ 61) : range1D [.int (n : Int)] = some ((List.range n).map fun k => .int (k : Int)) := by
  rw [range1_nat (by omega)]
  unfold rangeD
  simp
/-- a pool's take, as a call in an expression -/
theorem take_call {j : Nat} {t : T} {l : Int} (hp : IsPool j t) (hl : 0 < l) (hs : l < 2 ^ 200) (hj : j < 2 ^ 60) : ∃ r t', 0 ≤ r ∧ r < l ∧ IsPool (j + 1) t' ∧ m__law_take [t, .fz (.int l)] = .ok (.fz (.int r)) [t'] :=
  take_ex hp hl (sz_small (by omega) hs) (by omega)
def Ab (k : Nat) (x : Int) : Prop := x.natAbs ≤ k
theorem mat_rows {h w j : Nat} {t : T} (hp : IsPool j t) (hj : j < 2 ^ 50) (bh : h < 100) (bw : w < 100) (A B : Option T) :
    ∃ (f : Nat → Nat → Int) (t' : T), (∀ i c, Ab 3 (f i c)) ∧ IsPool (j + h * w) t' ∧ fLc (iArgs range1D (fCons (fVar 1) (fNil))) (sName 7) (fYes) b__law_matrix_e1 [7] [some t, some (.fz (.int (h : Int))), some (.fz (.int (w : Int))), none, none, none, none, none, none, none]
      = .ok (mTr h w f) [some t', some (.fz (.int (h : Int))), some (.fz (.int (w : Int))), none, none, none, none, none, none, none] := by
  have inner : ∀ (i : Nat) (t : T) (q : Nat), q < 2 ^ 55 → IsPool q t → ∃ (g : Nat → Int) (t' : T), (∀ c, Ab 3 (g c)) ∧ IsPool (q + w) t' ∧
      loopC (sName 8) fYes b__law_matrix_e0 [8] ((List.range w).map fun (k : Nat) => .int (k : Int)) [] [some t, some (.fz (.int (h : Int))), some (.fz (.int (w : Int))), none, none, none, none, some (.fz (.int (i : Int))), none, none]
        = .ok ((List.range w).map fun c => .fz (.int (g c))) [some t', some (.fz (.int (h : Int))), some (.fz (.int (w : Int))), none, none, none, none, some (.fz (.int (i : Int))), none, none] := by
    intro i t q hq hp
    obtain ⟨g, t', e, p1, p2, p3⟩ := lc_ex (set := sName 8) (elt := b__law_matrix_e0) (vs := [8]) (n := w) (dk := fun k => .int (k : Int)) (E := fun t : T => [some t, some (.fz (.int (h : Int))), some (.fz (.int (w : Int))), none, none, none, none, some (.fz (.int (i : Int))), none, none])
      (G := fun x : Int => .fz (.int x)) (P := Ab 3) (Inv := fun k t => IsPool (q + k) t) (by omega) 0 (fun k s hk hI => by
        obtain ⟨r, s', r0, r1, r2, r3⟩ := take_call (l := 7) hI (by decide) (by decide) (by omega)
        refine ⟨r - 3, s', ?_, ?_, r2⟩
        · simp [LcOkE, b__law_matrix_e0, r3]
        · unfold Ab; omega) t hp
    refine ⟨g, t', fun c => ?_, p3, e⟩
    by_cases hc : c < w
    · exact p1 c hc
    · rw [p2 c (by omega)]; exact Nat.zero_le _
  obtain ⟨g, t', e, p1, p2, p3⟩ := lc_ex (set := sName 7) (elt := b__law_matrix_e1) (vs := [7]) (n := h) (dk := fun k => .int (k : Int)) (E := fun t : T => [some t, some (.fz (.int (h : Int))), some (.fz (.int (w : Int))), none, none, none, none, none, none, none])
    (G := fun g : Nat → Int => .lst ((List.range w).map fun c => .fz (.int (g c)))) (P := fun g => ∀ c, Ab 3 (g c)) (Inv := fun k t => IsPool (j + k * w) t) (by omega) (fun _ => 0) (fun k s hk hI => by
      have hkw : k * w ≤ 100 * 100 := Nat.mul_le_mul (by omega) (by omega)
      obtain ⟨g, s', r1, r2, r3⟩ := inner k s (j + k * w) (by omega) hI
      refine ⟨g, s', ?_, r1, by rw [show (k + 1) * w = k * w + w by rw [Nat.add_mul]; omega, ← Nat.add_assoc]; exact r2⟩
      simp [LcOkE, b__law_matrix_e1, rg1 (n := w) (by omega), r3]) t (by simpa using hp)
  refine ⟨g, t', fun i c => ?_, p3, ?_⟩
  · by_cases hi : i < h
    · exact p1 i hi c
    · rw [p2 i (by omega)]; exact Nat.zero_le _
  · simp [rg1 (n := h) (by omega), e]
/-! the ways to change the rows -/
abbrev mEnv (t : T) (h w : Nat) (f : Nat → Nat → Int) (wh : Int) (o5 : Option T) : Env := [some t, some (.fz (.int (h : Int))), some (.fz (.int (w : Int))), some (mTr h w f), some (.fz (.int wh)), o5, none, none, none, none]
theorem mEnv_frz (t : T) (h w : Nat) (f : Nat → Nat → Int) (wh : Int) (o5 : Option T) : frzE (mEnv t h w f wh o5) = [some (.fz (frz t)), some (.fz (.int (h : Int))), some (.fz (.int (w : Int))), some (.fz (.lst ((List.range h).map fun i => .lst (tR w (f i))))), some (.fz (.int wh)), o5.map (fun t => .fz (frz t)), none, none, none, none] := by
  simp [frzE_cons, frzs_range]
theorem pure_ints (w : Nat) (g : Nat → Int) : pureTs ((List.range w).map fun j => .fz (.int (g j))) = true := by
  generalize List.range w = l
  induction l with
  | nil => rfl
  | cons a l ih => simp [ih]
theorem pure_rows (h w : Nat) (g : Nat → Nat → Int) : pureTs ((List.range h).map fun i => .lst ((List.range w).map fun j => .fz (.int (g i j)))) = true := by
  generalize List.range h = l
  induction l with
  | nil => rfl
  | cons a l ih => simp [ih, pure_ints]
def rowF (f : Nat → Nat → Int) (i : Nat) (g : Nat → Int) : Nat → Nat → Int := fun i' j => if i' = i then g j else f i' j
theorem row_tab {h w i : Nat} {f : Nat → Nat → Int} {g : Nat → Int} (hi : i < h) : ((List.range h).map fun i => T.lst ((List.range w).map fun j => .fz (.int (f i j)))).set i (.lst ((List.range w).map fun j => .fz (.int (g j)))) = (List.range h).map fun i' => T.lst ((List.range w).map fun j => .fz (.int (rowF f i g i' j))) := by
  rw [set_tab hi]
  refine List.map_congr_left fun i' _ => ?_
  by_cases e : i' = i
  · subst e; simp [rowF]
  · simp [rowF, e]
theorem ixN_neg1 {n : Nat} (h : 0 < n) : ixN n (-1) = some (n - 1) := by
  unfold ixN
  rw [if_neg (by decide), if_pos (by omega)]
  congr 1
  omega
theorem way0 {h w : Nat} {t : T} {f : Nat → Nat → Int} {wh : Int} {o5 : Option T} (hh : 1 < h) (bh : h < 100) (bw : w < 100) :
    fAsg (fRo (fLc (iArgs enumD (fCons (fBin gIx (fVar 3) (fBin gFdiv (fBin gSub (fVar 1) (fC (.int 1))) (fC (.int 2)))) (fNil))) (sTup (sCons (sName 8) (sCons (sName 9) (sNil)))) (fYes) b__law_matrix_e2 [8, 9])) (sPut 3 (fUn gNeg (fC (.int 1)))) (mEnv t h w f wh o5)
      = .nx (mEnv t h w (rowF f (h - 1) fun j => f ((h - 1) / 2) j + f 0 j) wh o5) := by
  have l := lc_tab (set := sTup (sCons (sName 8) (sCons (sName 9) sNil))) (elt := b__law_matrix_e2) (vs := [8, 9]) (n := w) (dk := fun j => .tup [.int (j : Int), .int (f ((h - 1) / 2) j)]) (g := fun j => .fz (.int (f ((h - 1) / 2) j + f 0 j)))
    (env := [some (.fz (frz t)), some (.fz (.int (h : Int))), some (.fz (.int (w : Int))), some (.fz (.lst ((List.range h).map fun i => .lst (tR w (f i))))), some (.fz (.int wh)), o5.map (fun t => .fz (frz t)), none, none, none, none]) (by omega) (fun j hj => by
      have g1 := atI_range (n := h) (g := fun i => D.lst (tR w (f i))) (show 0 < h by omega)
      have g2 := atI_range (n := w) (g := fun j => D.int (f 0 j)) hj
      simp only [Int.natCast_zero] at g1
      simp [LcOk, b__law_matrix_e2, g1, g2])
  have dv : divOk ((h : Int) - 1) 2 = true := divOk_of (B := 10) (by decide) (by unfold Bd; decide) (by decide)
  have fd : ((h : Int) - 1).fdiv 2 = (((h - 1) / 2 : Nat) : Int) := by
    have : ((h : Int) - 1) = ((h - 1 : Nat) : Int) := by omega
    rw [this, Int.fdiv_eq_ediv_of_nonneg _ (by decide)]
    rfl
  have g1 := atI_range (n := h) (g := fun i => D.lst (tR w (f i))) (show (h - 1) / 2 < h by omega)
  have val : fRo (fLc (iArgs enumD (fCons (fBin gIx (fVar 3) (fBin gFdiv (fBin gSub (fVar 1) (fC (.int 1))) (fC (.int 2)))) (fNil))) (sTup (sCons (sName 8) (sCons (sName 9) (sNil)))) (fYes) b__law_matrix_e2 [8, 9]) (mEnv t h w f wh o5) = .ok (.lst ((List.range w).map fun j => .fz (.int (f ((h - 1) / 2) j + f 0 j)))) (mEnv t h w f wh o5) := by
    unfold fRo
    rw [mEnv_frz]
    generalize (h - 1) / 2 = q at *
    simp [dv, fd, g1, enumL_tab, l, pure_ints]
  unfold fAsg
  rw [val]
  simp [ixN_neg1 (n := h) (by omega), row_tab (h := h) (i := h - 1) (by omega)]
theorem way1 {h w : Nat} {t : T} {f : Nat → Nat → Int} {wh c : Int} (hh : 0 < h) (bh : h < 100) (bw : w < 100) (hm : ∀ i j, mulOk c (f i j) = true) :
    fAsg (fRo (fLc (iSeq (fBin gIx (fVar 3) (fC (.int 0)))) (sName 9) (fYes) b__law_matrix_e3 [9])) (sPut 3 (fC (.int 0))) (mEnv t h w f wh (some (.fz (.int c))))
      = .nx (mEnv t h w (rowF f 0 fun j => c * f 0 j) wh (some (.fz (.int c)))) := by
  have l := lc_tab (set := sName 9) (elt := b__law_matrix_e3) (vs := [9]) (n := w) (dk := fun j => .int (f 0 j)) (g := fun j => .fz (.int (c * f 0 j)))
    (env := [some (.fz (frz t)), some (.fz (.int (h : Int))), some (.fz (.int (w : Int))), some (.fz (.lst ((List.range h).map fun i => .lst (tR w (f i))))), some (.fz (.int wh)), some (.fz (.int c)), none, none, none, none]) (by omega) (fun j hj => by
      simp [LcOk, b__law_matrix_e3, hm])
  have g1 := atI_range (n := h) (g := fun i => D.lst (tR w (f i))) hh
  simp only [Int.natCast_zero] at g1
  have i0 := ixN_nat hh
  simp only [Int.natCast_zero] at i0
  have val : fRo (fLc (iSeq (fBin gIx (fVar 3) (fC (.int 0)))) (sName 9) (fYes) b__law_matrix_e3 [9]) (mEnv t h w f wh (some (.fz (.int c)))) = .ok (.lst ((List.range w).map fun j => .fz (.int (c * f 0 j)))) (mEnv t h w f wh (some (.fz (.int c)))) := by
    unfold fRo
    rw [mEnv_frz]
    simp [g1, l, pure_ints]
  unfold fAsg
  rw [val]
  simp [i0, row_tab (h := h) (i := 0) hh]
theorem way2 {h w : Nat} {t : T} {f : Nat → Nat → Int} {wh c : Int} (bh : h < 100) (bw : w < 100) (hm : ∀ i j, mulOk c (f i j) = true) :
    fSet 3 (fRo (fLc (iSeq (fVar 3)) (sName 6) (fYes) b__law_matrix_e5 [6])) (mEnv t h w f wh (some (.fz (.int c))))
      = .nx (mEnv t h w (fun i j => c * f i j) wh (some (.fz (.int c)))) := by
  have l0 : ∀ i, loopC (sName 9) fYes b__law_matrix_e4 [9] (tR w (f i)) [] [some (.fz (frz t)), some (.fz (.int (h : Int))), some (.fz (.int (w : Int))), some (.fz (.lst ((List.range h).map fun i => .lst (tR w (f i))))), some (.fz (.int wh)), some (.fz (.int c)), some (.fz (.lst (tR w (f i)))), none, none, none]
      = .ok ((List.range w).map fun j => .fz (.int (c * f i j))) [some (.fz (frz t)), some (.fz (.int (h : Int))), some (.fz (.int (w : Int))), some (.fz (.lst ((List.range h).map fun i => .lst (tR w (f i))))), some (.fz (.int wh)), some (.fz (.int c)), some (.fz (.lst (tR w (f i)))), none, none, none] := fun i =>
    lc_tab (by omega) fun j hj => by simp [LcOk, b__law_matrix_e4, hm]
  have l := lc_tab (set := sName 6) (elt := b__law_matrix_e5) (vs := [6]) (n := h) (dk := fun i => .lst (tR w (f i))) (g := fun i => .lst ((List.range w).map fun j => .fz (.int (c * f i j))))
    (env := [some (.fz (frz t)), some (.fz (.int (h : Int))), some (.fz (.int (w : Int))), some (.fz (.lst ((List.range h).map fun i => .lst (tR w (f i))))), some (.fz (.int wh)), some (.fz (.int c)), none, none, none, none]) (by omega) (fun i hi => by
      simp [LcOk, b__law_matrix_e5, l0])
  have val : fRo (fLc (iSeq (fVar 3)) (sName 6) (fYes) b__law_matrix_e5 [6]) (mEnv t h w f wh (some (.fz (.int c)))) = .ok (mTr h w fun i j => c * f i j) (mEnv t h w f wh (some (.fz (.int c)))) := by
    unfold fRo
    rw [mEnv_frz]
    simp [l, pure_rows h w fun i j => c * f i j]
  unfold fSet
  rw [val]
  rfl
theorem way3 {h w : Nat} {t : T} {f : Nat → Nat → Int} {wh : Int} {o5 : Option T} (hw : 0 < w) (bh : h < 100) (bw : w < 100) (hm : ∀ i j, mulOk 2 (f i j) = true) :
    fForB (fPl 3) 3 6 b__law_matrix_f0 (mEnv t h w f wh o5) = .nx (mEnv t h w (fun i j => if j = w - 1 then f i 0 + 2 * f i (w - 1) else f i j) wh o5) := by
  have i0 := ixN_nat hw
  simp only [Int.natCast_zero] at i0
  have a0 := fun i => atI_range (n := w) (g := fun j => T.fz (.int (f i j))) hw
  simp only [Int.natCast_zero] at a0
  have am : ∀ i, atI ((List.range w).map fun j => T.fz (.int (f i j))) (-1) = some (.fz (.int (f i (w - 1)))) := fun i => by
    unfold atI
    rw [len_map_range, ixN_neg1 hw]
    show ((List.range w).map fun j => T.fz (.int (f i j)))[w - 1]? = _
    rw [List.getElem?_map, List.getElem?_range (by omega)]
    rfl
  have body : ∀ (i : Nat), b__law_matrix_f0 [some t, some (.fz (.int (h : Int))), some (.fz (.int (w : Int))), none, some (.fz (.int wh)), o5, some (.lst ((List.range w).map fun j => .fz (.int (f i j)))), none, none, none]
      = .nx [some t, some (.fz (.int (h : Int))), some (.fz (.int (w : Int))), none, some (.fz (.int wh)), o5, some (.lst ((List.range w).map fun j => .fz (.int (if j = w - 1 then f i 0 + 2 * f i (w - 1) else f i j)))), none, none, none] := fun i => by
    have st : ((List.range w).map fun j => T.fz (.int (f i j))).set (w - 1) (.fz (.int (f i 0 + 2 * f i (w - 1)))) = (List.range w).map fun j => .fz (.int (if j = w - 1 then f i 0 + 2 * f i (w - 1) else f i j)) := by
      rw [set_tab (by omega)]
      refine List.map_congr_left fun j _ => ?_
      split <;> rfl
    simp [b__law_matrix_f0, a0, am, hm, ixN_neg1 hw, st]
  have lp : ∀ (l : List Nat) (acc : List T), loopB 6 b__law_matrix_f0 (l.map fun i => .lst ((List.range w).map fun j => .fz (.int (f i j)))) acc [some t, some (.fz (.int (h : Int))), some (.fz (.int (w : Int))), none, some (.fz (.int wh)), o5, none, none, none, none]
      = some (acc ++ l.map fun i => .lst ((List.range w).map fun j => .fz (.int (if j = w - 1 then f i 0 + 2 * f i (w - 1) else f i j))), [some t, some (.fz (.int (h : Int))), some (.fz (.int (w : Int))), none, some (.fz (.int wh)), o5, none, none, none, none]) := by
    intro l
    induction l with
    | nil => intro acc; simp [loopB]
    | cons a l ih =>
      intro acc
      simp [loopB, body, ih]
  simp [lp]
theorem Ab.mul {a b : Nat} {x y : Int} (hx : Ab a x) (hy : Ab b y) : Ab (a * b) (x * y) := by
  unfold Ab at *
  rw [Int.natAbs_mul]
  exact Nat.mul_le_mul hx hy
theorem Ab.mono {a b : Nat} {x : Int} (hx : Ab a x) (h : a ≤ b) : Ab b x := Nat.le_trans hx h
theorem Ab.bd {a k : Nat} {x : Int} (hx : Ab a x) (h : a < 2 ^ k) : Bd k x := Nat.lt_of_le_of_lt hx h
theorem pick5 {r : Int} (h0 : 0 ≤ r) (h : r < 5) : ∃ c : Int, atI [D.int 2, .int 3, .int 6, .int 5, .int 4] r = some (.int c) ∧ 2 ≤ c ∧ c ≤ 6 := by
  have : r = 0 ∨ r = 1 ∨ r = 2 ∨ r = 3 ∨ r = 4 := by omega
  rcases this with rfl | rfl | rfl | rfl | rfl
  · exact ⟨2, rfl, by decide, by decide⟩
  · exact ⟨3, rfl, by decide, by decide⟩
  · exact ⟨6, rfl, by decide, by decide⟩
  · exact ⟨5, rfl, by decide, by decide⟩
  · exact ⟨4, rfl, by decide, by decide⟩
theorem pick3 {r : Int} (h0 : 0 ≤ r) (h : r < 3) : ∃ c : Int, atI [D.int 2, .int 3, .int 6] r = some (.int c) ∧ 2 ≤ c ∧ c ≤ 6 := by
  have : r = 0 ∨ r = 1 ∨ r = 2 := by omega
  rcases this with rfl | rfl | rfl
  · exact ⟨2, rfl, by decide, by decide⟩
  · exact ⟨3, rfl, by decide, by decide⟩
  · exact ⟨6, rfl, by decide, by decide⟩
theorem seq_nx {f g : MS} {env e : Env} (h : f env = .nx e) : fSeq f g env = g e := by unfold fSeq; rw [h]
def wayA : MS := fIfS (fAnd (fTestB (fBin (gEq2 false) (fVar 4) (fC (.int 0)))) (fTestB (fBin gGt (fVar 1) (fC (.int 1))))) (fAsg (fRo (fLc (iArgs enumD (fCons (fBin gIx (fVar 3) (fBin gFdiv (fBin gSub (fVar 1) (fC (.int 1))) (fC (.int 2)))) (fNil))) (sTup (sCons (sName 8) (sCons (sName 9) (sNil)))) (fYes) b__law_matrix_e2 [8, 9])) (sPut 3 (fUn gNeg (fC (.int 1))))) (fNext)
def wayB : MS := fIfS (fTestB (fBin (gEq2 false) (fVar 4) (fC (.int 1)))) (fSeq (fSet 5 (fBin gIx (fLst (fCons (fC (.int 2)) (fCons (fC (.int 3)) (fCons (fC (.int 6)) (fCons (fC (.int 5)) (fCons (fC (.int 4)) (fNil))))))) (fCall m__law_take [0] [some 0, none] (fMove 0 (fCons (fC (.int 5)) (fNil)))))) (fAsg (fRo (fLc (iSeq (fBin gIx (fVar 3) (fC (.int 0)))) (sName 9) (fYes) b__law_matrix_e3 [9])) (sPut 3 (fC (.int 0))))) (fNext)
def wayC : MS := fIfS (fTestB (fBin (gEq2 false) (fVar 4) (fC (.int 2)))) (fSeq (fSet 5 (fBin gIx (fLst (fCons (fC (.int 2)) (fCons (fC (.int 3)) (fCons (fC (.int 6)) (fNil))))) (fCall m__law_take [0] [some 0, none] (fMove 0 (fCons (fC (.int 3)) (fNil)))))) (fSet 3 (fRo (fLc (iSeq (fVar 3)) (sName 6) (fYes) b__law_matrix_e5 [6])))) (fNext)
def wayD : MS := fIfS (fTestB (fBin (gEq2 false) (fVar 4) (fC (.int 3)))) (fForB (fPl 3) 3 6 b__law_matrix_f0) (fNext)
theorem matrix_parts : b__law_matrix = fSeq (fSet 3 (fLc (iArgs range1D (fCons (fVar 1) (fNil))) (sName 7) (fYes) b__law_matrix_e1 [7])) (fSeq (fSet 4 (fCall m__law_take [0] [some 0, none] (fMove 0 (fCons (fC (.int 6)) (fNil))))) (fSeq wayA (fSeq wayB (fSeq wayC (fSeq wayD (fRetM 3)))))) := rfl
theorem IsPool.up {a b : Nat} {t : T} (h : IsPool a t) (hab : a ≤ b) : IsPool b t := by
  obtain ⟨x, n, fl, h1, h2, h3, h4, h5⟩ := h
  exact ⟨x, n, fl, h1, h2, h3, h4, by omega⟩
/-- one way of the law to change its rows -/
def Way (W : MS) (j : Nat) (h w : Nat) (wh : Int) : Prop := ∀ (t : T) (f : Nat → Nat → Int) (k : Nat) (o : Option T), IsPool k t → k < j → (∀ i c, Ab 3 (f i c)) → ∃ t' f' o', IsPool (k + 1) t' ∧ (∀ i c, Ab 18 (f' i c)) ∧ W (mEnv t h w f wh o) = .nx (mEnv t' h w f' wh o')
theorem wayA_no {h w : Nat} {t : T} {f : Nat → Nat → Int} {wh : Int} {o : Option T} (c : wh ≠ 0) : wayA (mEnv t h w f wh o) = .nx (mEnv t h w f wh o) := by
  simp [wayA, c]
theorem wayB_no {h w : Nat} {t : T} {f : Nat → Nat → Int} {wh : Int} {o : Option T} (c : wh ≠ 1) : wayB (mEnv t h w f wh o) = .nx (mEnv t h w f wh o) := by
  simp [wayB, c]
theorem wayC_no {h w : Nat} {t : T} {f : Nat → Nat → Int} {wh : Int} {o : Option T} (c : wh ≠ 2) : wayC (mEnv t h w f wh o) = .nx (mEnv t h w f wh o) := by
  simp [wayC, c]
theorem wayD_no {h w : Nat} {t : T} {f : Nat → Nat → Int} {wh : Int} {o : Option T} (c : wh ≠ 3) : wayD (mEnv t h w f wh o) = .nx (mEnv t h w f wh o) := by
  simp [wayD, c]
theorem ret_way {h w : Nat} {t : T} {f : Nat → Nat → Int} {wh : Int} {o : Option T} : finF [0] (fRetM 3 (mEnv t h w f wh o)) = .ok (mTr h w f) [t] := by
  simp
/-- the law's matrix: some rows of small items -/
theorem law_matrix_ex {h w j : Nat} {t : T} (hp : IsPool j t) (hj : j < 2 ^ 50) (hh : 0 < h) (hw : 0 < w) (bh : h < 100) (bw : w < 100) :
    ∃ (f : Nat → Nat → Int) (t' : T), (∀ i c, Ab 18 (f i c)) ∧ IsPool (j + 20000) t' ∧ m__law_matrix [t, .fz (.int (h : Int)), .fz (.int (w : Int))] = .ok (mTr h w f) [t'] := by
  obtain ⟨f, t1, f1, q1, e1⟩ := mat_rows (h := h) (w := w) hp hj bh bw none none
  have hw' : h * w ≤ 100 * 100 := Nat.mul_le_mul (by omega) (by omega)
  obtain ⟨wh, t2, a0, a1, q2, e2⟩ := take_call (l := 6) q1 (by decide) (by decide) (by omega)
  have st : m__law_matrix [t, .fz (.int (h : Int)), .fz (.int (w : Int))] = finF [0] (b__law_matrix [some t, some (.fz (.int (h : Int))), some (.fz (.int (w : Int))), none, none, none, none, none, none, none]) := rfl
  have s1 : fSet 3 (fLc (iArgs range1D (fCons (fVar 1) (fNil))) (sName 7) (fYes) b__law_matrix_e1 [7]) [some t, some (.fz (.int (h : Int))), some (.fz (.int (w : Int))), none, none, none, none, none, none, none] = .nx [some t1, some (.fz (.int (h : Int))), some (.fz (.int (w : Int))), some (mTr h w f), none, none, none, none, none, none] := by
    unfold fSet
    rw [e1]
    rfl
  have s2 : fSet 4 (fCall m__law_take [0] [some 0, none] (fMove 0 (fCons (fC (.int 6)) (fNil)))) [some t1, some (.fz (.int (h : Int))), some (.fz (.int (w : Int))), some (mTr h w f), none, none, none, none, none, none] = .nx (mEnv t2 h w f wh none) := by
    simp [e2]
  rw [st, matrix_parts, seq_nx s1, seq_nx s2]
  have c : wh = 0 ∨ wh = 1 ∨ wh = 2 ∨ wh = 3 ∨ 4 ≤ wh := by omega
  have ab : ∀ i j, Ab 18 (f i j) := fun i j => (f1 i j).mono (by decide)
  have m2 : ∀ (c : Int), Ab 6 c → ∀ i j, mulOk c (f i j) = true := fun c hc i j => Bd.mulOk (a := 5) (b := 5) (hc.bd (by decide)) ((f1 i j).bd (by decide)) (by decide)
  rcases c with rfl | rfl | rfl | rfl | c
  · by_cases h1 : h = 1
    · refine ⟨f, t2, ab, q2.up (by omega), ?_⟩
      have hn : ¬ (1 : Int) < h := by omega
      have k1 : wayA (mEnv t2 h w f 0 none) = .nx (mEnv t2 h w f 0 none) := by simp [wayA, hn]
      rw [seq_nx k1, seq_nx (wayB_no (by decide)), seq_nx (wayC_no (by decide)), seq_nx (wayD_no (by decide)), ret_way]
    · have hh1 : (1 : Int) < h := by omega
      have w0 := way0 (h := h) (w := w) (t := t2) (f := f) (wh := 0) (o5 := none) (by omega) bh bw
      have k1 : wayA (mEnv t2 h w f 0 none) = .nx (mEnv t2 h w (rowF f (h - 1) fun j => f ((h - 1) / 2) j + f 0 j) 0 none) := by
        rw [← w0]
        unfold wayA
        simp [-fAsg, hh1]
      refine ⟨rowF f (h - 1) fun j => f ((h - 1) / 2) j + f 0 j, t2, fun i j => ?_, q2.up (by omega), ?_⟩
      · unfold rowF
        split
        · have b1 := f1 ((h - 1) / 2) j
          have b2 := f1 0 j
          show Ab 18 (f ((h - 1) / 2) j + f 0 j)
          unfold Ab at *
          omega
        · exact ab i j
      · rw [seq_nx k1, seq_nx (wayB_no (by decide)), seq_nx (wayC_no (by decide)), seq_nx (wayD_no (by decide)), ret_way]
  · obtain ⟨r, t3, r0, r1, q3, e3⟩ := take_call (l := 5) q2 (by decide) (by decide) (by omega)
    obtain ⟨c, pc, c2, c6⟩ := pick5 r0 r1
    have ac : Ab 6 c := by unfold Ab; omega
    have w1 := way1 (h := h) (w := w) (t := t3) (f := f) (wh := 1) (c := c) hh bh bw (m2 c ac)
    have k1 : wayB (mEnv t2 h w f 1 none) = .nx (mEnv t3 h w (rowF f 0 fun j => c * f 0 j) 1 (some (.fz (.int c)))) := by
      rw [← w1]
      unfold wayB
      simp [-fAsg, e3, pc]
    refine ⟨rowF f 0 fun j => c * f 0 j, t3, fun i j => ?_, q3.up (by omega), ?_⟩
    · unfold rowF
      split
      · exact (Ab.mul ac (f1 0 j)).mono (by decide)
      · exact ab i j
    · rw [seq_nx (wayA_no (by decide)), seq_nx k1, seq_nx (wayC_no (by decide)), seq_nx (wayD_no (by decide)), ret_way]
  · obtain ⟨r, t3, r0, r1, q3, e3⟩ := take_call (l := 3) q2 (by decide) (by decide) (by omega)
    obtain ⟨c, pc, c2, c6⟩ := pick3 r0 r1
    have ac : Ab 6 c := by unfold Ab; omega
    have w1 := way2 (h := h) (w := w) (t := t3) (f := f) (wh := 2) (c := c) bh bw (m2 c ac)
    have k1 : wayC (mEnv t2 h w f 2 none) = .nx (mEnv t3 h w (fun i j => c * f i j) 2 (some (.fz (.int c)))) := by
      rw [← w1]
      unfold wayC
      have p0 : fIfS (fTestB (fBin (gEq2 false) (fVar 4) (fC (.int 2)))) (fSeq (fSet 5 (fBin gIx (fLst (fCons (fC (.int 2)) (fCons (fC (.int 3)) (fCons (fC (.int 6)) (fNil))))) (fCall m__law_take [0] [some 0, none] (fMove 0 (fCons (fC (.int 3)) (fNil)))))) (fSet 3 (fRo (fLc (iSeq (fVar 3)) (sName 6) (fYes) b__law_matrix_e5 [6])))) (fNext) (mEnv t2 h w f 2 none) = fSeq (fSet 5 (fBin gIx (fLst (fCons (fC (.int 2)) (fCons (fC (.int 3)) (fCons (fC (.int 6)) (fNil))))) (fCall m__law_take [0] [some 0, none] (fMove 0 (fCons (fC (.int 3)) (fNil)))))) (fSet 3 (fRo (fLc (iSeq (fVar 3)) (sName 6) (fYes) b__law_matrix_e5 [6]))) (mEnv t2 h w f 2 none) := by
        simp [-fSeq]
      have p1 : fSet 5 (fBin gIx (fLst (fCons (fC (.int 2)) (fCons (fC (.int 3)) (fCons (fC (.int 6)) (fNil))))) (fCall m__law_take [0] [some 0, none] (fMove 0 (fCons (fC (.int 3)) (fNil))))) (mEnv t2 h w f 2 none) = .nx (mEnv t3 h w f 2 (some (.fz (.int c)))) := by
        simp [e3, pc]
      rw [p0, seq_nx p1]
    refine ⟨fun i j => c * f i j, t3, fun i j => (Ab.mul ac (f1 i j)).mono (by decide), q3.up (by omega), ?_⟩
    rw [seq_nx (wayA_no (by decide)), seq_nx (wayB_no (by decide)), seq_nx k1, seq_nx (wayD_no (by decide)), ret_way]
  · have w1 := way3 (h := h) (w := w) (t := t2) (f := f) (wh := 3) (o5 := none) hw bh bw (m2 2 (by unfold Ab; decide))
    have k1 : wayD (mEnv t2 h w f 3 none) = .nx (mEnv t2 h w (fun i j => if j = w - 1 then f i 0 + 2 * f i (w - 1) else f i j) 3 none) := by
      rw [← w1]
      unfold wayD
      simp [-fForB]
    refine ⟨_, t2, fun i j => ?_, q2.up (by omega), by rw [seq_nx (wayA_no (by decide)), seq_nx (wayB_no (by decide)), seq_nx (wayC_no (by decide)), seq_nx k1, ret_way]⟩
    show Ab 18 (if j = w - 1 then f i 0 + 2 * f i (w - 1) else f i j)
    split
    · have b1 := f1 i 0
      have b2 := f1 i (w - 1)
      unfold Ab at *
      omega
    · exact ab i j
  · refine ⟨f, t2, ab, q2.up (by omega), ?_⟩
    rw [seq_nx (wayA_no (by omega)), seq_nx (wayB_no (by omega)), seq_nx (wayC_no (by omega)), seq_nx (wayD_no (by omega)), ret_way]
/-- .. its shape -/
theorem law_shape_ex {j : Nat} {t : T} (hp : IsPool j t) (hj : j < 2 ^ 50) : ∃ (h w : Nat) (t' : T), 0 < h ∧ h < 5 ∧ 0 < w ∧ w < 5 ∧ IsPool (j + 2) t' ∧ m__law_shape [t] = .ok (.lst [.fz (.int (h : Int)), .fz (.int (w : Int))]) [t'] := by
  obtain ⟨a, t1, a0, a1, q1, e1⟩ := take_call (l := 4) hp (by decide) (by decide) (by omega)
  obtain ⟨b, t2, b0, b1, q2, e2⟩ := take_call (l := 4) q1 (by decide) (by decide) (by omega)
  obtain ⟨a, rfl⟩ : ∃ n : Nat, a = n := ⟨a.toNat, by omega⟩
  obtain ⟨b, rfl⟩ : ∃ n : Nat, b = n := ⟨b.toNat, by omega⟩
  refine ⟨1 + a, 1 + b, t2, by omega, by omega, by omega, by omega, q2, ?_⟩
  simp [m__law_shape, b__law_shape, e1, e2]
end DL

set_option maxHeartbeats 4000000
namespace DL
open PySem L2
def b_Matrix___eq__ : MS := fRet (fAndV (fCB (g2 (gIsO [22] 22)) (fCons (fVar 1) (fCons (fC (.cls 22)) (fNil)))) (fBin (gEq2 false) (fPeekF 0 22 "rows") (fPeekF 1 22 "rows")))
def m_Matrix___eq__ : Mir := mirOf 2 [] b_Matrix___eq__

def b_Matrix___neg___e0 : M T := fUn gNeg (fVar 2)
def b_Matrix___neg___e1 : M T := fLc (iSeq (fVar 1)) (sName 2) (fYes) b_Matrix___neg___e0 [2]
def b_Matrix___neg__ : MS := fRet (fMake 22 m_Matrix___init__ [none] (fCons (fLc (iSeq (fPeekF 0 22 "rows")) (sName 1) (fYes) b_Matrix___neg___e1 [1]) (fNil)))
def m_Matrix___neg__ : Mir := mirOf 3 [] b_Matrix___neg__

def b_Matrix_scaled_e0 : M T := fBin gMul (fVar 1) (fVar 3)
def b_Matrix_scaled_e1 : M T := fLc (iSeq (fVar 2)) (sName 3) (fYes) b_Matrix_scaled_e0 [3]
def b_Matrix_scaled : MS := fRet (fMake 22 m_Matrix___init__ [none] (fCons (fLc (iSeq (fPeekF 0 22 "rows")) (sName 2) (fYes) b_Matrix_scaled_e1 [2]) (fNil)))
def m_Matrix_scaled : Mir := mirOf 4 [] b_Matrix_scaled

def b_Matrix_transposed_e0 : M T := fPeek 2 (fVar 1)
def b_Matrix_transposed_e1 : M T := fLc (iSeq (fPeekF 0 22 "rows")) (sName 2) (fYes) b_Matrix_transposed_e0 [2]
def b_Matrix_transposed : MS := fRet (fMake 22 m_Matrix___init__ [none] (fCons (fLc (iArgs range1D (fCons (fPeekF 0 22 "width") (fNil))) (sName 1) (fYes) b_Matrix_transposed_e1 [1]) (fNil)))
def m_Matrix_transposed : Mir := mirOf 3 [] b_Matrix_transposed

def b__law_product_e0 : M T := fBin gMul (fPeek 3 (fVar 5)) (fBin gIx (fPeek 1 (fVar 5)) (fVar 4))
def b__law_product_f0 : MS := fExpr (fPlApp (fPlIx (fPl 2) (fUn gNeg (fC (.int 1)))) (fCB (g1 gSum) (fCons (fLc (iArgs range1D (fCons (fCB (g1 gLen) (fCons (fVar 1) (fNil))) (fNil))) (sName 5) (fYes) b__law_product_e0 [5]) (fNil))))
def b__law_product_f1 : MS := fSeq (fExpr (fAppend 2 (fLst (fNil)))) (fFor (iArgs range1D (fCons (fCB (g1 gLen) (fCons (fPeek 1 (fC (.int 0))) (fNil))) (fNil))) (sName 4) b__law_product_f0)
def b__law_product : MS := fSeq (fSet 2 (fLst (fNil))) (fSeq (fFor (iSeq (fVar 0)) (sName 3) b__law_product_f1) (fRet (fVar 2)))
def m__law_product : Mir := mirOf 6 [] b__law_product

def b_Matrix_part_e0 : M T := fBin gIx (fBin gIx (fPeekF 0 22 "rows") (fVar 3)) (fVar 4)
def b_Matrix_part_e1 : M T := fLc (iSeq (fVar 2)) (sName 4) (fYes) b_Matrix_part_e0 [4]
def b_Matrix_part : MS := fRet (fMake 22 m_Matrix___init__ [none] (fCons (fLc (iSeq (fVar 1)) (sName 3) (fYes) b_Matrix_part_e1 [3]) (fNil)))
def m_Matrix_part : Mir := mirOf 5 [] b_Matrix_part

def b_Matrix_diagonal_e0 : M T := fRep (fLst (fCons (fC (.int 0)) (fNil))) (fVar 3)
def b_Matrix_diagonal_f0 : MS := fAsg (fVar 6) (sPlPut (fPlIx (fPl 4) (fVar 5)) (fVar 5))
def b_Matrix_diagonal : MS := fSeq (fSet 4 (fLc (iArgs range1D (fCons (fVar 2) (fNil))) (sName 7) (fYes) b_Matrix_diagonal_e0 [7])) (fSeq (fFor (iArgs enumD (fCons (fVar 1) (fNil))) (sTup (sCons (sName 5) (sCons (sName 6) (sNil)))) b_Matrix_diagonal_f0) (fRet (fRo (fMakeL 0 22 m_Matrix___init__ [none] (fCons (fVar 4) (fNil))))))
def m_Matrix_diagonal : Mir := mirOf 8 [] b_Matrix_diagonal

def b_Matrix_unit : MS := fRet (fCm 22 m_Matrix_diagonal [none, none, none] (fVar 0) (fCons (fRep (fLst (fCons (fC (.int 1)) (fNil))) (fVar 1)) (fCons (fVar 1) (fCons (fVar 1) (fNil)))))
def m_Matrix_unit : Mir := mirOf 2 [] b_Matrix_unit

theorem mk_init {h w : Nat} {f : Nat → Nat → Int} (hh : 0 < h) (bh : h < 2 ^ 20) : m_Matrix___init__ [.obj 22 [] [], .fz (.lst ((List.range h).map fun i => .lst (tR w (f i))))] = .ok (.fz .non) [mOT h w f] :=
  minit_eq (k := fun _ => false) (.inl (by simp [mK, rK])) hh bh
theorem mneg_eq {h w : Nat} {f : Nat → Nat → Int} (hh : 0 < h) (bh : h < 2 ^ 20) (bw : w < 2 ^ 20) : m_Matrix___neg__ [.fz (mOb h w f)] = .ok (mOT h w fun i j => - f i j) [] := by
  have l0 : ∀ i, loopC (sName 2) fYes b_Matrix___neg___e0 [2] (tR w (f i)) [] [some (.fz (mOb h w f)), some (.fz (.tup (tR w (f i)))), none] = .ok ((List.range w).map fun j => .fz (.int (- f i j))) [some (.fz (mOb h w f)), some (.fz (.tup (tR w (f i)))), none] := fun i =>
    lc_tab bw fun j hj => by simp [LcOk, b_Matrix___neg___e0]
  have l1 : loopC (sName 1) fYes b_Matrix___neg___e1 [1] (mD h w f) [] [some (.fz (mOb h w f)), none, none] = .ok ((List.range h).map fun i => .lst ((List.range w).map fun j => .fz (.int (- f i j)))) [some (.fz (mOb h w f)), none, none] :=
    lc_tab bh fun i hi => by simp [LcOk, b_Matrix___neg___e1, l0]
  have e := mk_init (h := h) (w := w) (f := fun i j => - f i j) hh bh
  simp [m_Matrix___neg__, b_Matrix___neg__, l1, frzs_range, e]
theorem mscaled_eq {h w : Nat} {f : Nat → Nat → Int} {c : Int} (hh : 0 < h) (bh : h < 2 ^ 20) (bw : w < 2 ^ 20) (hm : ∀ i j, mulOk c (f i j) = true) : m_Matrix_scaled [.fz (mOb h w f), .fz (.int c)] = .ok (mOT h w fun i j => c * f i j) [] := by
  have l0 : ∀ i, loopC (sName 3) fYes b_Matrix_scaled_e0 [3] (tR w (f i)) [] [some (.fz (mOb h w f)), some (.fz (.int c)), some (.fz (.tup (tR w (f i)))), none] = .ok ((List.range w).map fun j => .fz (.int (c * f i j))) [some (.fz (mOb h w f)), some (.fz (.int c)), some (.fz (.tup (tR w (f i)))), none] := fun i =>
    lc_tab bw fun j hj => by simp [LcOk, b_Matrix_scaled_e0, hm]
  have l1 : loopC (sName 2) fYes b_Matrix_scaled_e1 [2] (mD h w f) [] [some (.fz (mOb h w f)), some (.fz (.int c)), none, none] = .ok ((List.range h).map fun i => .lst ((List.range w).map fun j => .fz (.int (c * f i j)))) [some (.fz (mOb h w f)), some (.fz (.int c)), none, none] :=
    lc_tab bh fun i hi => by simp [LcOk, b_Matrix_scaled_e1, l0]
  have e := mk_init (h := h) (w := w) (f := fun i j => c * f i j) hh bh
  simp [m_Matrix_scaled, b_Matrix_scaled, l1, frzs_range, e]
theorem mtrans_eq {h w : Nat} {f : Nat → Nat → Int} (hw : 0 < w) (bh : h < 2 ^ 20) (bw : w < 2 ^ 20) : m_Matrix_transposed [.fz (mOb h w f)] = .ok (mOT w h fun i j => f j i) [] := by
  have l0 : ∀ j, j < w → loopC (sName 2) fYes b_Matrix_transposed_e0 [2] (mD h w f) [] [some (.fz (mOb h w f)), some (.fz (.int (j : Int))), none] = .ok ((List.range h).map fun i => .fz (.int (f i j))) [some (.fz (mOb h w f)), some (.fz (.int (j : Int))), none] := fun j hj =>
    lc_tab bh fun i hi => by
      have g := atI_range (n := w) (g := fun j => D.int (f i j)) hj
      simp [LcOk, b_Matrix_transposed_e0, g]
  have l1 : loopC (sName 1) fYes b_Matrix_transposed_e1 [1] ((List.range w).map fun (j : Nat) => .int (j : Int)) [] [some (.fz (mOb h w f)), none, none] = .ok ((List.range w).map fun j => .lst ((List.range h).map fun i => .fz (.int (f i j)))) [some (.fz (mOb h w f)), none, none] :=
    lc_tab bw fun j hj => by simp [LcOk, b_Matrix_transposed_e1, l0 j hj]
  have e := mk_init (h := w) (w := h) (f := fun i j => f j i) hw bw
  simp [m_Matrix_transposed, b_Matrix_transposed, rg1 (n := w) (by omega), l1, frzs_range, e]
/-- a part of a matrix -/
theorem mpart_eq {h w p q : Nat} {f : Nat → Nat → Int} {r c : Nat → Nat} (hp : 0 < p) (bp : p < 2 ^ 20) (bq : q < 2 ^ 20) (hr : ∀ i, i < p → r i < h) (hc : ∀ j, j < q → c j < w) :
    m_Matrix_part [.fz (mOb h w f), .fz (.lst (tR p fun i => (r i : Int))), .fz (.lst (tR q fun j => (c j : Int)))] = .ok (mOT p q fun i j => f (r i) (c j)) [] := by
  have l0 : ∀ i, i < p → loopC (sName 4) fYes b_Matrix_part_e0 [4] (tR q fun j => (c j : Int)) [] [some (.fz (mOb h w f)), some (.fz (.lst (tR p fun i => (r i : Int)))), some (.fz (.lst (tR q fun j => (c j : Int)))), some (.fz (.int (r i : Int))), none]
      = .ok ((List.range q).map fun j => .fz (.int (f (r i) (c j)))) [some (.fz (mOb h w f)), some (.fz (.lst (tR p fun i => (r i : Int)))), some (.fz (.lst (tR q fun j => (c j : Int)))), some (.fz (.int (r i : Int))), none] := fun i hi =>
    lc_tab bq fun j hj => by
      have g := atI_range (n := h) (g := fun i => D.tup (tR w (f i))) (hr i hi)
      have g2 := atI_range (n := w) (g := fun j => D.int (f (r i) j)) (hc j hj)
      simp [LcOk, b_Matrix_part_e0, g, g2]
  have l1 : loopC (sName 3) fYes b_Matrix_part_e1 [3] (tR p fun i => (r i : Int)) [] [some (.fz (mOb h w f)), some (.fz (.lst (tR p fun i => (r i : Int)))), some (.fz (.lst (tR q fun j => (c j : Int)))), none, none]
      = .ok ((List.range p).map fun i => .lst ((List.range q).map fun j => .fz (.int (f (r i) (c j))))) [some (.fz (mOb h w f)), some (.fz (.lst (tR p fun i => (r i : Int)))), some (.fz (.lst (tR q fun j => (c j : Int)))), none, none] :=
    lc_tab bp fun i hi => by simp [LcOk, b_Matrix_part_e1, l0 i hi]
  have e := mk_init (h := p) (w := q) (f := fun i j => f (r i) (c j)) hp bp
  simp [m_Matrix_part, b_Matrix_part, l1, frzs_range, e]
theorem rep_tab {n : Nat} {d : D} : repT [T.fz d] (n : Int) = (List.range n).map fun _ => .fz d := by
  simp only [repT, frzs, frz, List.map_cons, List.map_nil]
  rw [Int.toNat_natCast]
  apply List.ext_getElem?
  intro i
  by_cases hi : i < n
  · rw [List.getElem?_map, List.getElem?_range hi]
    simp [List.flatten_replicate_singleton, hi]
  · rw [List.getElem?_eq_none (by simp; omega), List.getElem?_eq_none (by simp; omega)]
def dgF (m : Nat) (v : Nat → Int) : Nat → Nat → Int := fun i j => if i = j ∧ i < m then v i else 0
theorem mdiag_eq {m h w : Nat} {v : Nat → Int} (hh : 0 < h) (bh : h < 2 ^ 19) (bw : w < 2 ^ 19) (hm : m ≤ h) (hw : m ≤ w) :
    m_Matrix_diagonal [.fz (.cls 22), .fz (.lst (tR m v)), .fz (.int (h : Int)), .fz (.int (w : Int))] = .ok (mOT h w (dgF m v)) [] := by
  have := big_size
  have rk : rgOk (w : Int) = true := rgOk_of (by omega)
  have l1 : loopC (sName 7) fYes b_Matrix_diagonal_e0 [7] ((List.range h).map fun (j : Nat) => .int (j : Int)) [] [some (.fz (.cls 22)), some (.fz (.lst (tR m v))), some (.fz (.int (h : Int))), some (.fz (.int (w : Int))), none, none, none, none]
      = .ok ((List.range h).map fun j => .lst ((List.range w).map fun i => .fz (.int 0))) [some (.fz (.cls 22)), some (.fz (.lst (tR m v))), some (.fz (.int (h : Int))), some (.fz (.int (w : Int))), none, none, none, none] :=
    lc_tab (by omega) fun j hj => by
      have hl : w ≤ sizeLine := by omega
      simp [-repT, LcOk, b_Matrix_diagonal_e0, rk, hl, rep_tab]
  have lf := lf_tab (set := sTup (sCons (sName 5) (sCons (sName 6) sNil))) (b := b_Matrix_diagonal_f0) (n := m) (dk := fun i => .tup [.int (i : Int), .int (v i)])
    (fun i => [some (.fz (.cls 22)), some (.fz (.lst (tR m v))), some (.fz (.int (h : Int))), some (.fz (.int (w : Int))), some (mTr h w (dgF i v)), (if i = 0 then none else some (.fz (.int ((i - 1 : Nat) : Int)))), (if i = 0 then none else some (.fz (.int (v (i - 1))))), none])
    (fun i hi => by
      have i1 := ixN_nat (n := h) (i := i) (by omega)
      have i2 := ixN_nat (n := w) (i := i) (by omega)
      have pt := put_tab (h := h) (w := w) (i := i) (j := i) (f := dgF i v) (v := v i) (by omega) (by omega)
      have gi : ((List.range h).map fun i' => T.lst ((List.range w).map fun j => .fz (.int (dgF i v i' j))))[i]? = some (T.lst ((List.range w).map fun j => .fz (.int (dgF i v i j)))) := by
        rw [List.getElem?_map, List.getElem?_range (by omega)]; rfl
      have e : mTr h w (upF (dgF i v) i i (v i)) = mTr h w (dgF (i + 1) v) := mTr_congr fun i' j' _ _ => by
        unfold upF dgF
        by_cases h1 : i' = i ∧ j' = i
        · obtain ⟨rfl, rfl⟩ := h1
          rw [if_pos ⟨rfl, rfl⟩, if_pos (by omega)]
        · rw [if_neg h1]
          by_cases h2 : i' = j' ∧ i' < i
          · rw [if_pos h2, if_pos (by omega)]
          · rw [if_neg h2, if_neg (by omega)]
      simp [LfOk, b_Matrix_diagonal_f0, i1, i2, gi]
      exact T.lst.inj (pt.trans e))
  have z : mTr h w (dgF 0 v) = mTr h w fun _ _ => 0 := mTr_congr fun i j _ _ => by unfold dgF; rw [if_neg (by omega)]
  simp only [if_true, z] at lf
  have e := mk_init (h := h) (w := w) (f := dgF m v) hh (by omega)
  have st : m_Matrix_diagonal [.fz (.cls 22), .fz (.lst (tR m v)), .fz (.int (h : Int)), .fz (.int (w : Int))] = finF [] (b_Matrix_diagonal [some (.fz (.cls 22)), some (.fz (.lst (tR m v))), some (.fz (.int (h : Int))), some (.fz (.int (w : Int))), none, none, none, none]) := rfl
  have s1 : fSet 4 (fLc (iArgs range1D (fCons (fVar 2) (fNil))) (sName 7) (fYes) b_Matrix_diagonal_e0 [7]) [some (.fz (.cls 22)), some (.fz (.lst (tR m v))), some (.fz (.int (h : Int))), some (.fz (.int (w : Int))), none, none, none, none] = .nx [some (.fz (.cls 22)), some (.fz (.lst (tR m v))), some (.fz (.int (h : Int))), some (.fz (.int (w : Int))), some (mTr h w fun _ _ => 0), none, none, none] := by
    simp [rg1 (n := h) (by omega), l1]
  have s2 : fFor (iArgs enumD (fCons (fVar 1) (fNil))) (sTup (sCons (sName 5) (sCons (sName 6) (sNil)))) b_Matrix_diagonal_f0 [some (.fz (.cls 22)), some (.fz (.lst (tR m v))), some (.fz (.int (h : Int))), some (.fz (.int (w : Int))), some (mTr h w fun _ _ => 0), none, none, none] = .nx [some (.fz (.cls 22)), some (.fz (.lst (tR m v))), some (.fz (.int (h : Int))), some (.fz (.int (w : Int))), some (mTr h w (dgF m v)), (if m = 0 then none else some (.fz (.int ((m - 1 : Nat) : Int)))), (if m = 0 then none else some (.fz (.int (v (m - 1))))), none] := by
    rw [← lf]
    simp [enumL_tab]
  rw [st]
  unfold b_Matrix_diagonal
  rw [seq_nx s1, seq_nx s2]
  have p1 : pureDs (mD h w (dgF m v)) = true := by
    have : ∀ l : List Nat, pureDs (l.map fun i => .tup (tR w (dgF m v i))) = true := by
      intro l
      induction l with
      | nil => rfl
      | cons a l ih =>
        have : ∀ l : List Nat, pureDs (l.map fun j => .int (dgF m v a j)) = true := by
          intro l
          induction l with
          | nil => rfl
          | cons a l ih => simp [ih]
        simp [ih, this]
    exact this _
  generalize (if m = 0 then none else some (T.fz (.int ((m - 1 : Nat) : Int)))) = oa
  generalize (if m = 0 then none else some (T.fz (.int (v (m - 1))))) = ob
  cases oa <;> cases ob <;> simp [e, frzs_range, p1]
theorem munit_eq {n : Nat} (hn : 0 < n) (bn : n < 2 ^ 19) : m_Matrix_unit [.fz (.cls 22), .fz (.int (n : Int))] = .ok (mOT n n (dgF n fun _ => 1)) [] := by
  have := big_size
  have e := mdiag_eq (m := n) (h := n) (w := n) (v := fun _ => 1) hn bn bn (Nat.le_refl _) (Nat.le_refl _)
  have rk : rgOk (n : Int) = true := rgOk_of (by omega)
  have hl : n ≤ sizeLine := by omega
  simp [-repT, m_Matrix_unit, b_Matrix_unit, rk, hl, rep_tab, frzs_tab n fun _ => D.int 1, e]
end DL

set_option maxHeartbeats 4000000
namespace K41
open PySem PySem.Spec PyProof.Rows L2 DL
def topS (i : Nat) : Stmt := PySem.Challenge.pw_everyfield_k41_matrices_by_items.main.body.getD i (.Pass ⟨0, 0, 0, 0⟩)
section
variable {P : Program} {w : World} {K : PySem.W.Frag} {mg : Str → Option Value} {base : Heap} {C : Nat → Addr}
abbrev si_BadText : Stmt := (clsBody (topS 3)).getD 0 (.Pass ⟨0, 0, 0, 0⟩)
theorem se_BadText : SupScope ["self", "at"] ["self", "at"] (defScope si_BadText) := ⟨rfl, rfl, rfl, by decide +kernel, rfl, by decide +kernel, by decide +kernel, fre_by (by decide +kernel), rfl, rfl⟩
theorem dE_BadText {Ca fa : Addr} {fd : FuncData} (F : SupF P K "__init__" "BadText.__init__" si_BadText fa fd Ca) (T : SupC P K Ca) (n0 : PySem.W.findIn K (.ref Ca) "at" = some none) : FnOk P w K mg base (L2.CX P w) 1 fa fd ["self", "at"] (spE1 K Ca "at") :=
  fn_e1 F se_BadText T ⟨rfl, rfl, rfl, fun _ => rfl, fun _ _ => rfl, fun _ => ⟨_, rfl⟩⟩ n0 (by decide) (by decide) (fun _ _ => rfl) (is := [1]) (by decide) (fun X hN hs k hr => msg_join (.cons (mp_text (by decide)) (.cons (mp_slot hr (pe_var (i := 1) (by rw [hN]; rfl) (.inl (by rw [hs]; rfl)))) (.nil))))

abbrev si_BadRow : Stmt := (clsBody (topS 4)).getD 0 (.Pass ⟨0, 0, 0, 0⟩)
theorem se_BadRow : SupScope ["self", "at"] ["self", "at"] (defScope si_BadRow) := ⟨rfl, rfl, rfl, by decide +kernel, rfl, by decide +kernel, by decide +kernel, fre_by (by decide +kernel), rfl, rfl⟩
theorem dE_BadRow {Ca fa : Addr} {fd : FuncData} (F : SupF P K "__init__" "BadRow.__init__" si_BadRow fa fd Ca) (T : SupC P K Ca) (n0 : PySem.W.findIn K (.ref Ca) "at" = some none) : FnOk P w K mg base (L2.CX P w) 1 fa fd ["self", "at"] (spE1 K Ca "at") :=
  fn_e1 F se_BadRow T ⟨rfl, rfl, rfl, fun _ => rfl, fun _ _ => rfl, fun _ => ⟨_, rfl⟩⟩ n0 (by decide) (by decide) (fun _ _ => rfl) (is := [1]) (by decide) (fun X hN hs k hr => msg_join (.cons (mp_text (by decide)) (.cons (mp_slot hr (pe_var (i := 1) (by rw [hN]; rfl) (.inl (by rw [hs]; rfl)))) (.cons (mp_text (by decide)) (.nil)))))

abbrev si_UnlikeShapes : Stmt := (clsBody (topS 5)).getD 0 (.Pass ⟨0, 0, 0, 0⟩)
theorem se_UnlikeShapes : SupScope ["self", "first", "second"] ["self", "first", "second"] (defScope si_UnlikeShapes) := ⟨rfl, rfl, rfl, by decide +kernel, rfl, by decide +kernel, by decide +kernel, fre_by (by decide +kernel), rfl, rfl⟩
theorem dE_UnlikeShapes {Ca fa : Addr} {fd : FuncData} (F : SupF P K "__init__" "UnlikeShapes.__init__" si_UnlikeShapes fa fd Ca) (T : SupC P K Ca) (n0 : PySem.W.findIn K (.ref Ca) "first" = some none) (n1 : PySem.W.findIn K (.ref Ca) "second" = some none) : FnOk P w K mg base (L2.CX P w) 1 fa fd ["self", "first", "second"] (spE2 K Ca "first" "second") :=
  fn_e2 F se_UnlikeShapes T ⟨rfl, rfl, rfl, fun _ => rfl, fun _ _ => rfl, fun _ => ⟨_, rfl⟩⟩ n0 n1 (by decide) (by decide) (by decide) (by decide) (fun _ _ => rfl) (fun _ _ => rfl) (is := [1, 2]) (by decide) (fun X hN hs k hr => msg_join (.cons (mp_slot hr (pe_var (i := 1) (by rw [hN]; rfl) (.inl (by rw [hs]; rfl)))) (.cons (mp_text (by decide)) (.cons (mp_slot hr (pe_var (i := 2) (by rw [hN]; rfl) (.inl (by rw [hs]; rfl)))) (.cons (mp_text (by decide)) (.nil))))))

abbrev s__law_cell : Stmt := topS 15
theorem sc__law_cell : FnScope ["_law_script", "_law_k"] ["_law_script", "_law_k"] (defScope s__law_cell) := ⟨rfl, rfl, rfl, by decide +kernel, rfl, by decide +kernel, by decide +kernel⟩
theorem d__law_cell (A : At K mg "_law_cell" s__law_cell ["_law_script", "_law_k"]) (h_len : mg "len" = none) : Df P w K mg base C "_law_cell" 1 ["_law_script", "_law_k"] [] m__law_cell :=
  Df.mk' (k := 0) A sc__law_cell (by decide) (by decide) fun f cdv A outer s H E s0 W hr => dss_cons (ds_if (dt_cmp od_lt (dv 1) (c_len h_len (da_cons (dv 0) (da_nil)))) (dss_one (ds_ret (dpeek 0 (dv 1)))) (dss_nil)) (dss_one (ds_ret (de_int)))

abbrev s__law_pool : Stmt := topS 13
theorem sc__law_pool : FnScope ["_law_cell_here"] ["_law_cell_here"] (defScope s__law_pool) := ⟨rfl, rfl, rfl, by decide +kernel, rfl, by decide +kernel, by decide +kernel⟩
theorem d__law_pool (A : At K mg "_law_pool" s__law_pool ["_law_cell_here"])  : Df P w K mg base C "_law_pool" 1 ["_law_cell_here"] [] m__law_pool :=
  Df.mk' (k := 0) A sc__law_pool (by decide) (by decide) fun f cdv A outer s H E s0 W hr => dss_one (ds_ret (de_lst (da_cons (dv 0) (da_cons (de_int) (da_cons (de_cmp od_ge (dv 0) (de_op od_pow (de_int) (de_int))) (da_nil))))))

abbrev s__law_take : Stmt := topS 14
theorem sc__law_take : FnScope ["_law_pool_here", "_law_limit", "_law_drawn", "_law_mixed"] ["_law_pool_here", "_law_limit"] (defScope s__law_take) := ⟨rfl, rfl, rfl, by decide +kernel, rfl, by decide +kernel, by decide +kernel⟩
theorem d__law_take (A : At K mg "_law_take" s__law_take ["_law_pool_here", "_law_limit"]) (h_int : mg "int" = none) : Df P w K mg base C "_law_take" 1 ["_law_pool_here", "_law_limit"] [0] m__law_take :=
  Df.mk' (k := 0) A sc__law_take (by decide) (by decide) fun f cdv A outer s H E s0 W hr => dss_cons (ds_asg (de_op (od_add2 rfl) (dpeek 0 (de_int)) (de_int)) (dput 0 (de_int))) (dss_cons (ds_if (dt_val (dpeek 0 (de_int))) (dss_cons (dset 2 (de_op od_mod (c_int h_int (da_cons (dpeek 0 (de_int)) (da_nil))) (dv 1))) (dss_cons (ds_asg (de_op od_fdiv (c_int h_int (da_cons (dpeek 0 (de_int)) (da_nil))) (dv 1)) (dput 0 (de_int))) (dss_one (ds_ret (dv 2))))) (dss_nil)) (dss_cons (dset 3 (de_op od_mod (c_int h_int (da_cons (de_op (od_add2 rfl) (de_op (od_add2 rfl) (de_op od_mul (dpeek 0 (de_int)) (de_int)) (de_op od_mul (dpeek 0 (de_int)) (de_int))) (de_int)) (da_nil))) (de_int))) (dss_one (ds_ret (de_op od_mod (de_op od_fdiv (c_int h_int (da_cons (de_op od_mod (de_op od_pow (dv 3) (de_int)) (de_int)) (da_nil))) (de_int)) (dv 1))))))

abbrev s__law_shape : Stmt := topS 17
theorem sc__law_shape : FnScope ["_law_pool_here"] ["_law_pool_here"] (defScope s__law_shape) := ⟨rfl, rfl, rfl, by decide +kernel, rfl, by decide +kernel, by decide +kernel⟩
theorem d__law_shape (A : At K mg "_law_shape" s__law_shape ["_law_pool_here"]) (D__law_take : Df P w K mg base C "_law_take" 1 ["_law_pool_here", "_law_limit"] [0] m__law_take) : Df P w K mg base C "_law_shape" 2 ["_law_pool_here"] [0] m__law_shape :=
  Df.mk' (k := 1) A sc__law_shape (by decide) (by decide) fun f cdv A outer s H E s0 W hr => dss_one (ds_ret (de_lst (da_cons (de_op (od_add2 rfl) (de_int) (dcall D__law_take [0] (hr.mono (by decide)) (dmove 0 (da_cons (de_int) (da_nil))))) (da_cons (de_op (od_add2 rfl) (de_int) (dcall D__law_take [0] (hr.mono (by decide)) (dmove 0 (da_cons (de_int) (da_nil))))) (da_nil)))))

abbrev s__law_matrix : Stmt := topS 16
theorem sc__law_matrix : FnScope ["_law_pool_here", "_law_height", "_law_width", "_law_rows", "_law_which", "_law_factor", "_law_row", "_law_i", "_law_j", "_law_item"] ["_law_pool_here", "_law_height", "_law_width"] (defScope s__law_matrix) := ⟨rfl, rfl, rfl, by decide +kernel, rfl, by decide +kernel, by decide +kernel⟩
theorem d__law_matrix (A : At K mg "_law_matrix" s__law_matrix ["_law_pool_here", "_law_height", "_law_width"]) (h_range : mg "range" = none) (h_enumerate : mg "enumerate" = none) (D__law_take : Df P w K mg base C "_law_take" 1 ["_law_pool_here", "_law_limit"] [0] m__law_take) : Df P w K mg base C "_law_matrix" 2 ["_law_pool_here", "_law_height", "_law_width"] [0] m__law_matrix :=
  Df.mk' (k := 1) A sc__law_matrix (by decide) (by decide) fun f cdv A outer s H E s0 W hr => dss_cons (dset 3 (dlc [("_law_i", 7)] (di_range1 (by rfl) h_range (da_cons (dv 1) (da_nil))) (by kernel_rfl) (fun _ _ _ _ _ => dname 7) (fun _ _ _ _ _ => dts_nil) (fun _ _ _ _ _ => dlc [("_law_j", 8)] (di_range1 (by rfl) h_range (da_cons (dv 2) (da_nil))) (by kernel_rfl) (fun _ _ _ _ _ => dname 8) (fun _ _ _ _ _ => dts_nil) (fun _ _ _ _ _ => de_op od_sub (dcall D__law_take [0] (hr.mono (by decide)) (dmove 0 (da_cons (de_int) (da_nil)))) (de_int))))) (dss_cons (dset 4 (dcall D__law_take [0] (hr.mono (by decide)) (dmove 0 (da_cons (de_int) (da_nil))))) (dss_cons (ds_if (DW.dt (dw_and (dt_cmp (od_eq2 hr rfl) (dv 4) (de_int)) (dw_and1 (dt_cmp od_gt (dv 1) (de_int))))) (dss_one (ds_asg (de_ro (dlc [("_law_j", 8), ("_law_item", 9)] (di_enum (by rfl) h_enumerate (da_cons (de_ix (dv 3) (de_op od_fdiv (de_op od_sub (dv 1) (de_int)) (de_int))) (da_nil))) (by kernel_rfl) (fun _ _ _ _ _ => dg_tup (dgs_cons (dname 8) (dgs_cons (dname 9) (dgs_nil))) (hl := (sCons_len (sCons_len (fun _ _ _ h => sNil_len h))))) (fun _ _ _ _ _ => dts_nil) (fun _ _ _ _ _ => de_op (od_add2 rfl) (dv 9) (de_ix (de_ix (dv 3) (de_int)) (dv 8))))) (dput 3 (de_un ud_neg (de_int))))) (dss_nil)) (dss_cons (ds_if (dt_cmp (od_eq2 hr rfl) (dv 4) (de_int)) (dss_cons (dset 5 (de_ix (de_lst (da_cons (de_int) (da_cons (de_int) (da_cons (de_int) (da_cons (de_int) (da_cons (de_int) (da_nil))))))) (dcall D__law_take [0] (hr.mono (by decide)) (dmove 0 (da_cons (de_int) (da_nil)))))) (dss_one (ds_asg (de_ro (dlc [("_law_item", 9)] (di_seq (de_ix (dv 3) (de_int))) (by kernel_rfl) (fun _ _ _ _ _ => dname 9) (fun _ _ _ _ _ => dts_nil) (fun _ _ _ _ _ => de_op od_mul (dv 5) (dv 9)))) (dput 3 (de_int))))) (dss_nil)) (dss_cons (ds_if (dt_cmp (od_eq2 hr rfl) (dv 4) (de_int)) (dss_cons (dset 5 (de_ix (de_lst (da_cons (de_int) (da_cons (de_int) (da_cons (de_int) (da_nil))))) (dcall D__law_take [0] (hr.mono (by decide)) (dmove 0 (da_cons (de_int) (da_nil)))))) (dss_one (dset 3 (de_ro (dlc [("_law_row", 6)] (di_seq (dv 3)) (by kernel_rfl) (fun _ _ _ _ _ => dname 6) (fun _ _ _ _ _ => dts_nil) (fun _ _ _ _ _ => dlc [("_law_item", 9)] (di_seq (dv 6)) (by kernel_rfl) (fun _ _ _ _ _ => dname 9) (fun _ _ _ _ _ => dts_nil) (fun _ _ _ _ _ => de_op od_mul (dv 5) (dv 9)))))))) (dss_nil)) (dss_cons (ds_if (dt_cmp (od_eq2 hr rfl) (dv 4) (de_int)) (dss_one (dforB 3 6 (dp_name 3) (fun _ => dss_one (ds_asg (de_op (od_add2 rfl) (dpeek 6 (de_int)) (de_op od_mul (de_int) (dpeek 6 (de_un ud_neg (de_int))))) (dput 6 (de_un ud_neg (de_int))))))) (dss_nil)) (dss_one (dretM 3)))))))

abbrev s__law_made : Stmt := topS 22
theorem sc__law_made : FnScope ["_law_pool_here", "_law_height", "_law_width", "_law_rows"] ["_law_pool_here", "_law_height", "_law_width"] (defScope s__law_made) := ⟨rfl, rfl, rfl, by decide +kernel, rfl, by decide +kernel, by decide +kernel⟩
def b__law_made : MS := fSeq (fSet 3 (fCall m__law_matrix [0] [some 0, none, none] (fMove 0 (fCons (fVar 1) (fCons (fVar 2) (fNil)))))) (fSeq (fIfS (fTestB (fBin (gEq2 false) (fCall m__law_take [0] [some 0, none] (fMove 0 (fCons (fC (.int 5)) (fNil)))) (fC (.int 1)))) (fAsg (fBin gSub (fCall m__law_take [0] [some 0, none] (fMove 0 (fCons (fBin gPow (fC (.int 10)) (fC (.int 30))) (fNil)))) (fBin gPow (fC (.int 10)) (fC (.int 29)))) (sPlPut (fPlIx (fPl 3) (fC (.int 0))) (fC (.int 0)))) (fNext)) (fRetM 3))
def m__law_made : Mir := mirOf 4 [0] b__law_made
theorem d__law_made (A : At K mg "_law_made" s__law_made ["_law_pool_here", "_law_height", "_law_width"]) (D__law_matrix : Df P w K mg base C "_law_matrix" 2 ["_law_pool_here", "_law_height", "_law_width"] [0] m__law_matrix) (D__law_take : Df P w K mg base C "_law_take" 1 ["_law_pool_here", "_law_limit"] [0] m__law_take) : Df P w K mg base C "_law_made" 3 ["_law_pool_here", "_law_height", "_law_width"] [0] m__law_made :=
  Df.mk' (k := 2) A sc__law_made (by decide) (by decide) fun f cdv A outer s H E s0 W hr => dss_cons (dset 3 (dcall D__law_matrix [0] (hr.mono (by decide)) (dmove 0 (da_cons (dv 1) (da_cons (dv 2) (da_nil)))))) (dss_cons (ds_if (dt_cmp (od_eq2 hr rfl) (dcall D__law_take [0] (hr.mono (by decide)) (dmove 0 (da_cons (de_int) (da_nil)))) (de_int)) (dss_one (ds_asg (de_op od_sub (dcall D__law_take [0] (hr.mono (by decide)) (dmove 0 (da_cons (de_op od_pow (de_int) (de_int)) (da_nil)))) (de_op od_pow (de_int) (de_int))) (dg_plPut (dp_ix (dp_name 3) (de_int)) (de_int)))) (dss_nil)) (dss_one (dretM 3)))

abbrev s_Matrix___init__ : Stmt := (clsBody (topS 9)).getD 0 (.Pass ⟨0, 0, 0, 0⟩)
theorem sc_Matrix___init__ : FnScope ["self", "rows", "at", "row"] ["self", "rows"] (defScope s_Matrix___init__) := ⟨rfl, rfl, rfl, by decide +kernel, rfl, by decide +kernel, by decide +kernel⟩
theorem d_Matrix___init__ (A : Am K C 22 "__init__" "Matrix.__init__" s_Matrix___init__ ["self", "rows"]) (h_tuple : mg "tuple" = none) (h_len : mg "len" = none) (h_enumerate : mg "enumerate" = none) (K_Matrix : CF K mg C 22 "Matrix" ["rows", "height", "width"]) (E_BadRow : Err P w K mg base C 3 "BadRow" ["self", "at"] (spE1 K (C 3) "at")) : Dm P w K mg base C 22 "__init__" 3 ["self", "rows"] [0] m_Matrix___init__ :=
  Dm.mk' (k := 2) A sc_Matrix___init__ (by decide) (by decide) fun f cdv A outer s H E s0 W hr => dss_cons (dsetF 0 22 (K_Matrix.fld "rows") (c_tuple h_tuple (da_cons (dlc [("row", 3)] (di_seq (dv 1)) (by kernel_rfl) (fun _ _ _ _ _ => dname 3) (fun _ _ _ _ _ => dts_nil) (fun _ _ _ _ _ => c_tuple h_tuple (da_cons (dv 3) (da_nil)))) (da_nil)))) (dss_cons (dsetF 0 22 (K_Matrix.fld "height") (c_len h_len (da_cons (dpeekF 0 22 (K_Matrix.fld "rows")) (da_nil)))) (dss_cons (dsetF 0 22 (K_Matrix.fld "width") (c_len h_len (da_cons (de_ix (dpeekF 0 22 (K_Matrix.fld "rows")) (de_int)) (da_nil)))) (dss_one (ds_for (di_enum (by rfl) h_enumerate (da_cons (dpeekF 0 22 (K_Matrix.fld "rows")) (da_nil))) (dg_tup (dgs_cons (dname 2) (dgs_cons (dname 3) (dgs_nil))) (hl := (sCons_len (sCons_len (fun _ _ _ h => sNil_len h))))) (dss_one (ds_if (dt_cmp (od_ne2 hr rfl) (c_len h_len (da_cons (dv 3) (da_nil))) (dpeekF 0 22 (K_Matrix.fld "width"))) (dss_one (draise1 E_BadRow (hr.mono (by decide)) (da_cons (dv 2) (da_nil)))) (dss_nil)))))))

abbrev s_sum_rows : Stmt := topS 10
theorem sc_sum_rows : FnScope ["first", "second", "factor", "found", "row", "more", "item", "other"] ["first", "second", "factor"] (defScope s_sum_rows) := ⟨rfl, rfl, rfl, by decide +kernel, rfl, by decide +kernel, by decide +kernel⟩
theorem d_sum_rows (A : At K mg "sum_rows" s_sum_rows ["first", "second", "factor"]) (h_zip : mg "zip" = none) (K_Matrix : CF K mg C 22 "Matrix" ["rows", "height", "width"]) (E_UnlikeShapes : Err P w K mg base C 4 "UnlikeShapes" ["self", "first", "second"] (spE2 K (C 4) "first" "second")) : Df P w K mg base C "sum_rows" 3 ["first", "second", "factor"] [] m_sum_rows :=
  Df.mk' (k := 2) A sc_sum_rows (by decide) (by decide) fun f cdv A outer s H E s0 W hr => dss_cons (ds_if (DW.dt (dw_or (dt_cmp (od_ne2 hr rfl) (dpeekF 0 22 (K_Matrix.fld "height")) (dpeekF 1 22 (K_Matrix.fld "height"))) (dw_or1 (dt_cmp (od_ne2 hr rfl) (dpeekF 0 22 (K_Matrix.fld "width")) (dpeekF 1 22 (K_Matrix.fld "width")))))) (dss_one (draise2 E_UnlikeShapes (hr.mono (by decide)) (da_cons (de_tup (da_cons (dpeekF 0 22 (K_Matrix.fld "height")) (da_cons (dpeekF 0 22 (K_Matrix.fld "width")) (da_nil)))) (da_cons (de_tup (da_cons (dpeekF 1 22 (K_Matrix.fld "height")) (da_cons (dpeekF 1 22 (K_Matrix.fld "width")) (da_nil)))) (da_nil))))) (dss_nil)) (dss_cons (dset 3 (de_lst (da_nil))) (dss_cons (ds_for (di_zip (by rfl) h_zip (da_cons (dpeekF 0 22 (K_Matrix.fld "rows")) (da_cons (dpeekF 1 22 (K_Matrix.fld "rows")) (da_nil)))) (dg_tup (dgs_cons (dname 4) (dgs_cons (dname 5) (dgs_nil))) (hl := (sCons_len (sCons_len (fun _ _ _ h => sNil_len h))))) (dss_one (ds_expr (dappend 3 (dlc [("item", 6), ("other", 7)] (di_zip (by rfl) h_zip (da_cons (dv 4) (da_cons (dv 5) (da_nil)))) (by kernel_rfl) (fun _ _ _ _ _ => dg_tup (dgs_cons (dname 6) (dgs_cons (dname 7) (dgs_nil))) (hl := (sCons_len (sCons_len (fun _ _ _ h => sNil_len h))))) (fun _ _ _ _ _ => dts_nil) (fun _ _ _ _ _ => de_op (od_add2 rfl) (dv 6) (de_op od_mul (dv 2) (dv 7)))))))) (dss_one (ds_ret (dv 3)))))

abbrev s_Matrix___add__ : Stmt := (clsBody (topS 9)).getD 5 (.Pass ⟨0, 0, 0, 0⟩)
theorem sc_Matrix___add__ : FnScope ["self", "other"] ["self", "other"] (defScope s_Matrix___add__) := ⟨rfl, rfl, rfl, by decide +kernel, rfl, by decide +kernel, by decide +kernel⟩
theorem d_Matrix___add__ (A : Am K C 22 "__add__" "Matrix.__add__" s_Matrix___add__ ["self", "other"]) (K_Matrix : CF K mg C 22 "Matrix" ["rows", "height", "width"]) (D_sum_rows : Df P w K mg base C "sum_rows" 3 ["first", "second", "factor"] [] m_sum_rows) (D_Matrix___init__ : Dm P w K mg base C 22 "__init__" 3 ["self", "rows"] [0] m_Matrix___init__) : Dm P w K mg base C 22 "__add__" 5 ["self", "other"] [] m_Matrix___add__ :=
  Dm.mk' (k := 4) A sc_Matrix___add__ (by decide) (by decide) fun f cdv A outer s H E s0 W hr => dss_one (ds_ret (dmake D_Matrix___init__ K_Matrix.mkC (hr.mono (by decide)) (da_cons (dcall D_sum_rows [] (hr.mono (by decide)) (da_cons (dv 0) (da_cons (dv 1) (da_cons (de_int) (da_nil))))) (da_nil))))

abbrev s_Matrix___eq__ : Stmt := (clsBody (topS 9)).getD 9 (.Pass ⟨0, 0, 0, 0⟩)
theorem sc_Matrix___eq__ : FnScope ["self", "other"] ["self", "other"] (defScope s_Matrix___eq__) := ⟨rfl, rfl, rfl, by decide +kernel, rfl, by decide +kernel, by decide +kernel⟩
theorem d_Matrix___eq__ (A : Am K C 22 "__eq__" "Matrix.__eq__" s_Matrix___eq__ ["self", "other"]) (h_isinstance : mg "isinstance" = none) (K_Matrix : CF K mg C 22 "Matrix" ["rows", "height", "width"]) (I_Matrix : IsiC K C [22] 22) : Dm P w K mg base C 22 "__eq__" 1 ["self", "other"] [] m_Matrix___eq__ :=
  Dm.mk' (k := 0) A sc_Matrix___eq__ (by decide) (by decide) fun f cdv A outer s H E s0 W hr => dss_one (ds_ret (de_and (c_isO I_Matrix h_isinstance (da_cons (dv 1) (da_cons (de_clsG K_Matrix.gl) (da_nil)))) (de_one (de_cmp (od_eq2 hr rfl) (dpeekF 0 22 (K_Matrix.fld "rows")) (dpeekF 1 22 (K_Matrix.fld "rows"))))))

abbrev s__law_is : Stmt := topS 20
theorem sc__law_is : FnScope ["_law_told", "_law_rows", "_law_row"] ["_law_told", "_law_rows"] (defScope s__law_is) := ⟨rfl, rfl, rfl, by decide +kernel, rfl, by decide +kernel, by decide +kernel⟩
def b__law_is_e0 : M T := fCB (g1 gTuple) (fCons (fVar 2) (fNil))
def b__law_is : MS := fSeq (fIfS (fOr (fNot (fTest (fCB (g2 (gIsO [22] 22)) (fCons (fVar 0) (fCons (fC (.cls 22)) (fNil)))))) (fTestB (fBin (gEq2 true) (fPeekF 0 22 "rows") (fCB (g1 gTuple) (fCons (fLc (iSeq (fVar 1)) (sName 2) (fYes) b__law_is_e0 [2]) (fNil)))))) (fRet (fC (.bl false))) (fNext)) (fSeq (fIfS (fTestB (fBin (gEq2 true) (fPeekF 0 22 "height") (fCB (g1 gLen) (fCons (fVar 1) (fNil))))) (fRet (fC (.bl false))) (fNext)) (fSeq (fIfS (fTestB (fBin (gEq2 true) (fPeekF 0 22 "width") (fCB (g1 gLen) (fCons (fPeek 1 (fC (.int 0))) (fNil))))) (fRet (fC (.bl false))) (fNext)) (fRet (fBin2 (gEqA 22 m_Matrix___eq__) (fVar 0) (fMake 22 m_Matrix___init__ [none] (fCons (fVar 1) (fNil)))))))
def m__law_is : Mir := mirOf 3 [] b__law_is
theorem d__law_is (A : At K mg "_law_is" s__law_is ["_law_told", "_law_rows"]) (h_isinstance : mg "isinstance" = none) (h_tuple : mg "tuple" = none) (h_len : mg "len" = none) (K_Matrix : CF K mg C 22 "Matrix" ["rows", "height", "width"]) (I_Matrix : IsiC K C [22] 22) (D_Matrix___init__ : Dm P w K mg base C 22 "__init__" 3 ["self", "rows"] [0] m_Matrix___init__) (D_Matrix___eq__ : Dm P w K mg base C 22 "__eq__" 1 ["self", "other"] [] m_Matrix___eq__) : Df P w K mg base C "_law_is" 5 ["_law_told", "_law_rows"] [] m__law_is :=
  Df.mk' (k := 4) A sc__law_is (by decide) (by decide) fun f cdv A outer s H E s0 W hr => dss_cons (ds_if (DW.dt (dw_or (dt_not (dt_val (c_isO I_Matrix h_isinstance (da_cons (dv 0) (da_cons (de_clsG K_Matrix.gl) (da_nil)))))) (dw_or1 (dt_cmp (od_ne2 hr rfl) (dpeekF 0 22 (K_Matrix.fld "rows")) (c_tuple h_tuple (da_cons (dlc [("_law_row", 2)] (di_seq (dv 1)) (by kernel_rfl) (fun _ _ _ _ _ => dname 2) (fun _ _ _ _ _ => dts_nil) (fun _ _ _ _ _ => c_tuple h_tuple (da_cons (dv 2) (da_nil)))) (da_nil))))))) (dss_one (ds_ret (de_bl))) (dss_nil)) (dss_cons (ds_if (dt_cmp (od_ne2 hr rfl) (dpeekF 0 22 (K_Matrix.fld "height")) (c_len h_len (da_cons (dv 1) (da_nil)))) (dss_one (ds_ret (de_bl))) (dss_nil)) (dss_cons (ds_if (dt_cmp (od_ne2 hr rfl) (dpeekF 0 22 (K_Matrix.fld "width")) (c_len h_len (da_cons (dpeek 1 (de_int)) (da_nil)))) (dss_one (ds_ret (de_bl))) (dss_nil)) (dss_one (ds_ret (de_cmpX (ox_eqA D_Matrix___eq__ K_Matrix.nf (hr.mono (by decide))) (dv 0) (dmake D_Matrix___init__ K_Matrix.mkC (hr.mono (by decide)) (da_cons (dv 1) (da_nil))))))))

abbrev s_Matrix___sub__ : Stmt := (clsBody (topS 9)).getD 6 (.Pass ⟨0, 0, 0, 0⟩)
theorem sc_Matrix___sub__ : FnScope ["self", "other"] ["self", "other"] (defScope s_Matrix___sub__) := ⟨rfl, rfl, rfl, by decide +kernel, rfl, by decide +kernel, by decide +kernel⟩
theorem d_Matrix___sub__ (A : Am K C 22 "__sub__" "Matrix.__sub__" s_Matrix___sub__ ["self", "other"]) (K_Matrix : CF K mg C 22 "Matrix" ["rows", "height", "width"]) (D_sum_rows : Df P w K mg base C "sum_rows" 3 ["first", "second", "factor"] [] m_sum_rows) (D_Matrix___init__ : Dm P w K mg base C 22 "__init__" 3 ["self", "rows"] [0] m_Matrix___init__) : Dm P w K mg base C 22 "__sub__" 5 ["self", "other"] [] m_Matrix___sub__ :=
  Dm.mk' (k := 4) A sc_Matrix___sub__ (by decide) (by decide) fun f cdv A outer s H E s0 W hr => dss_one (ds_ret (dmake D_Matrix___init__ K_Matrix.mkC (hr.mono (by decide)) (da_cons (dcall D_sum_rows [] (hr.mono (by decide)) (da_cons (dv 0) (da_cons (dv 1) (da_cons (de_un ud_neg (de_int)) (da_nil))))) (da_nil))))

abbrev s_Matrix_shape : Stmt := (clsBody (topS 9)).getD 4 (.Pass ⟨0, 0, 0, 0⟩)
theorem sc_Matrix_shape : FnScope ["self"] ["self"] (defScope s_Matrix_shape) := ⟨rfl, rfl, rfl, by decide +kernel, rfl, by decide +kernel, by decide +kernel⟩
theorem d_Matrix_shape (A : Am K C 22 "shape" "Matrix.shape" s_Matrix_shape ["self"]) (K_Matrix : CF K mg C 22 "Matrix" ["rows", "height", "width"]) : Dm P w K mg base C 22 "shape" 1 ["self"] [] m_Matrix_shape :=
  Dm.mk' (k := 0) A sc_Matrix_shape (by decide) (by decide) fun f cdv A outer s H E s0 W hr => dss_one (ds_ret (de_tup (da_cons (dpeekF 0 22 (K_Matrix.fld "height")) (da_cons (dpeekF 0 22 (K_Matrix.fld "width")) (da_nil)))))

abbrev s_Matrix_beside : Stmt := (clsBody (topS 9)).getD 14 (.Pass ⟨0, 0, 0, 0⟩)
theorem sc_Matrix_beside : FnScope ["self", "other", "first", "second"] ["self", "other"] (defScope s_Matrix_beside) := ⟨rfl, rfl, rfl, by decide +kernel, rfl, by decide +kernel, by decide +kernel⟩
theorem d_Matrix_beside (A : Am K C 22 "beside" "Matrix.beside" s_Matrix_beside ["self", "other"]) (h_zip : mg "zip" = none) (K_Matrix : CF K mg C 22 "Matrix" ["rows", "height", "width"]) (D_Matrix_shape : Dm P w K mg base C 22 "shape" 1 ["self"] [] m_Matrix_shape) (D_Matrix___init__ : Dm P w K mg base C 22 "__init__" 3 ["self", "rows"] [0] m_Matrix___init__) (E_UnlikeShapes : Err P w K mg base C 4 "UnlikeShapes" ["self", "first", "second"] (spE2 K (C 4) "first" "second")) : Dm P w K mg base C 22 "beside" 5 ["self", "other"] [] m_Matrix_beside :=
  Dm.mk' (k := 4) A sc_Matrix_beside (by decide) (by decide) fun f cdv A outer s H E s0 W hr => dss_cons (ds_if (dt_cmp (od_ne2 hr rfl) (dpeekF 0 22 (K_Matrix.fld "height")) (dpeekF 1 22 (K_Matrix.fld "height"))) (dss_one (draise2 E_UnlikeShapes (hr.mono (by decide)) (da_cons (dmeth0 K_Matrix.cl D_Matrix_shape (hr.mono (by decide)) (dv 0)) (da_cons (dmeth0 K_Matrix.cl D_Matrix_shape (hr.mono (by decide)) (dv 1)) (da_nil))))) (dss_nil)) (dss_one (ds_ret (dmake D_Matrix___init__ K_Matrix.mkC (hr.mono (by decide)) (da_cons (dlc [("first", 2), ("second", 3)] (di_zip (by rfl) h_zip (da_cons (dpeekF 0 22 (K_Matrix.fld "rows")) (da_cons (dpeekF 1 22 (K_Matrix.fld "rows")) (da_nil)))) (by kernel_rfl) (fun _ _ _ _ _ => dg_tup (dgs_cons (dname 2) (dgs_cons (dname 3) (dgs_nil))) (hl := (sCons_len (sCons_len (fun _ _ _ h => sNil_len h))))) (fun _ _ _ _ _ => dts_nil) (fun _ _ _ _ _ => de_op (od_add2 rfl) (dv 2) (dv 3))) (da_nil)))))

abbrev s__law_pairs_fit : Stmt := topS 23
theorem sc__law_pairs_fit : FnScope ["_law_one", "_law_two", "_law_first", "_law_second", "_law_plus", "_law_less", "_law_i", "_law_a", "_law_b"] ["_law_one", "_law_two", "_law_first", "_law_second"] (defScope s__law_pairs_fit) := ⟨rfl, rfl, rfl, by decide +kernel, rfl, by decide +kernel, by decide +kernel⟩
def b__law_pairs_fit_e0 : M T := fBin gAdd2 (fVar 7) (fVar 8)
def b__law_pairs_fit_e1 : M T := fBin gSub (fVar 7) (fVar 8)
def b__law_pairs_fit_f0 : MS := fSeq (fExpr (fAppend 4 (fLc (iArgs zipD (fCons (fPeek 2 (fVar 6)) (fCons (fPeek 3 (fVar 6)) (fNil)))) (sTup (sCons (sName 7) (sCons (sName 8) (sNil)))) (fYes) b__law_pairs_fit_e0 [7, 8]))) (fExpr (fAppend 5 (fLc (iArgs zipD (fCons (fPeek 2 (fVar 6)) (fCons (fPeek 3 (fVar 6)) (fNil)))) (sTup (sCons (sName 7) (sCons (sName 8) (sNil)))) (fYes) b__law_pairs_fit_e1 [7, 8])))
def b__law_pairs_fit_e2 : M T := fBin gAdd2 (fPeek 2 (fVar 6)) (fPeek 3 (fVar 6))
def b__law_pairs_fit : MS := fSeq (fSet 4 (fLst (fNil))) (fSeq (fSet 5 (fLst (fNil))) (fSeq (fFor (iArgs range1D (fCons (fCB (g1 gLen) (fCons (fVar 2) (fNil))) (fNil))) (sName 6) b__law_pairs_fit_f0) (fSeq (fIfS (fRoT (fOr (fNot (fTest (fCall m__law_is [] [none, none] (fCons (fBin2 (gO 22 m_Matrix___add__) (fVar 0) (fVar 1)) (fCons (fVar 4) (fNil)))))) (fNot (fTest (fCall m__law_is [] [none, none] (fCons (fBin2 (gO 22 m_Matrix___sub__) (fVar 0) (fVar 1)) (fCons (fVar 5) (fNil)))))))) (fRet (fC (.bl false))) (fNext)) (fRet (fCall m__law_is [] [none, none] (fCons (fMeth 22 "beside" m_Matrix_beside [none] (fVar 0) (fCons (fVar 1) (fNil))) (fCons (fLc (iArgs range1D (fCons (fCB (g1 gLen) (fCons (fVar 2) (fNil))) (fNil))) (sName 6) (fYes) b__law_pairs_fit_e2 [6]) (fNil))))))))
def m__law_pairs_fit : Mir := mirOf 9 [] b__law_pairs_fit
theorem d__law_pairs_fit (A : At K mg "_law_pairs_fit" s__law_pairs_fit ["_law_one", "_law_two", "_law_first", "_law_second"]) (h_range : mg "range" = none) (h_len : mg "len" = none) (h_zip : mg "zip" = none) (K_Matrix : CF K mg C 22 "Matrix" ["rows", "height", "width"]) (D_Matrix___add__ : Dm P w K mg base C 22 "__add__" 5 ["self", "other"] [] m_Matrix___add__) (D__law_is : Df P w K mg base C "_law_is" 5 ["_law_told", "_law_rows"] [] m__law_is) (D_Matrix___sub__ : Dm P w K mg base C 22 "__sub__" 5 ["self", "other"] [] m_Matrix___sub__) (D_Matrix_beside : Dm P w K mg base C 22 "beside" 5 ["self", "other"] [] m_Matrix_beside) : Df P w K mg base C "_law_pairs_fit" 6 ["_law_one", "_law_two", "_law_first", "_law_second"] [] m__law_pairs_fit :=
  Df.mk' (k := 5) A sc__law_pairs_fit (by decide) (by decide) fun f cdv A outer s H E s0 W hr => dss_cons (dset 4 (de_lst (da_nil))) (dss_cons (dset 5 (de_lst (da_nil))) (dss_cons (ds_for (di_range1 (by rfl) h_range (da_cons (c_len h_len (da_cons (dv 2) (da_nil))) (da_nil))) (dname 6) (dss_cons (ds_expr (dappend 4 (dlc [("_law_a", 7), ("_law_b", 8)] (di_zip (by rfl) h_zip (da_cons (dpeek 2 (dv 6)) (da_cons (dpeek 3 (dv 6)) (da_nil)))) (by kernel_rfl) (fun _ _ _ _ _ => dg_tup (dgs_cons (dname 7) (dgs_cons (dname 8) (dgs_nil))) (hl := (sCons_len (sCons_len (fun _ _ _ h => sNil_len h))))) (fun _ _ _ _ _ => dts_nil) (fun _ _ _ _ _ => de_op (od_add2 rfl) (dv 7) (dv 8))))) (dss_one (ds_expr (dappend 5 (dlc [("_law_a", 7), ("_law_b", 8)] (di_zip (by rfl) h_zip (da_cons (dpeek 2 (dv 6)) (da_cons (dpeek 3 (dv 6)) (da_nil)))) (by kernel_rfl) (fun _ _ _ _ _ => dg_tup (dgs_cons (dname 7) (dgs_cons (dname 8) (dgs_nil))) (hl := (sCons_len (sCons_len (fun _ _ _ h => sNil_len h))))) (fun _ _ _ _ _ => dts_nil) (fun _ _ _ _ _ => de_op od_sub (dv 7) (dv 8)))))))) (dss_cons (ds_if (dt_ro (DW.dt (dw_or (dt_not (dt_val (dcall D__law_is [] (hr.mono (by decide)) (da_cons (de_opX (ox_bin D_Matrix___add__ (hr.mono (by decide)) K_Matrix.sf) (dv 0) (dv 1)) (da_cons (dv 4) (da_nil)))))) (dw_or1 (dt_not (dt_val (dcall D__law_is [] (hr.mono (by decide)) (da_cons (de_opX (ox_bin D_Matrix___sub__ (hr.mono (by decide)) K_Matrix.sf) (dv 0) (dv 1)) (da_cons (dv 5) (da_nil)))))))))) (dss_one (ds_ret (de_bl))) (dss_nil)) (dss_one (ds_ret (dcall D__law_is [] (hr.mono (by decide)) (da_cons (dmeth K_Matrix.cl D_Matrix_beside (hr.mono (by decide)) (dv 0) (da_cons (dv 1) (da_nil))) (da_cons (dlc [("_law_i", 6)] (di_range1 (by rfl) h_range (da_cons (c_len h_len (da_cons (dv 2) (da_nil))) (da_nil))) (by kernel_rfl) (fun _ _ _ _ _ => dname 6) (fun _ _ _ _ _ => dts_nil) (fun _ _ _ _ _ => de_op (od_add2 rfl) (dpeek 2 (dv 6)) (dpeek 3 (dv 6)))) (da_nil)))))))))

abbrev s_Matrix___neg__ : Stmt := (clsBody (topS 9)).getD 7 (.Pass ⟨0, 0, 0, 0⟩)
theorem sc_Matrix___neg__ : FnScope ["self", "row", "item"] ["self"] (defScope s_Matrix___neg__) := ⟨rfl, rfl, rfl, by decide +kernel, rfl, by decide +kernel, by decide +kernel⟩
theorem d_Matrix___neg__ (A : Am K C 22 "__neg__" "Matrix.__neg__" s_Matrix___neg__ ["self"]) (K_Matrix : CF K mg C 22 "Matrix" ["rows", "height", "width"]) (D_Matrix___init__ : Dm P w K mg base C 22 "__init__" 3 ["self", "rows"] [0] m_Matrix___init__) : Dm P w K mg base C 22 "__neg__" 5 ["self"] [] m_Matrix___neg__ :=
  Dm.mk' (k := 4) A sc_Matrix___neg__ (by decide) (by decide) fun f cdv A outer s H E s0 W hr => dss_one (ds_ret (dmake D_Matrix___init__ K_Matrix.mkC (hr.mono (by decide)) (da_cons (dlc [("row", 1)] (di_seq (dpeekF 0 22 (K_Matrix.fld "rows"))) (by kernel_rfl) (fun _ _ _ _ _ => dname 1) (fun _ _ _ _ _ => dts_nil) (fun _ _ _ _ _ => dlc [("item", 2)] (di_seq (dv 1)) (by kernel_rfl) (fun _ _ _ _ _ => dname 2) (fun _ _ _ _ _ => dts_nil) (fun _ _ _ _ _ => de_un ud_neg (dv 2)))) (da_nil))))

abbrev s_Matrix_scaled : Stmt := (clsBody (topS 9)).getD 11 (.Pass ⟨0, 0, 0, 0⟩)
theorem sc_Matrix_scaled : FnScope ["self", "n", "row", "item"] ["self", "n"] (defScope s_Matrix_scaled) := ⟨rfl, rfl, rfl, by decide +kernel, rfl, by decide +kernel, by decide +kernel⟩
theorem d_Matrix_scaled (A : Am K C 22 "scaled" "Matrix.scaled" s_Matrix_scaled ["self", "n"]) (K_Matrix : CF K mg C 22 "Matrix" ["rows", "height", "width"]) (D_Matrix___init__ : Dm P w K mg base C 22 "__init__" 3 ["self", "rows"] [0] m_Matrix___init__) : Dm P w K mg base C 22 "scaled" 5 ["self", "n"] [] m_Matrix_scaled :=
  Dm.mk' (k := 4) A sc_Matrix_scaled (by decide) (by decide) fun f cdv A outer s H E s0 W hr => dss_one (ds_ret (dmake D_Matrix___init__ K_Matrix.mkC (hr.mono (by decide)) (da_cons (dlc [("row", 2)] (di_seq (dpeekF 0 22 (K_Matrix.fld "rows"))) (by kernel_rfl) (fun _ _ _ _ _ => dname 2) (fun _ _ _ _ _ => dts_nil) (fun _ _ _ _ _ => dlc [("item", 3)] (di_seq (dv 2)) (by kernel_rfl) (fun _ _ _ _ _ => dname 3) (fun _ _ _ _ _ => dts_nil) (fun _ _ _ _ _ => de_op od_mul (dv 1) (dv 3)))) (da_nil))))

abbrev s_Matrix_transposed : Stmt := (clsBody (topS 9)).getD 12 (.Pass ⟨0, 0, 0, 0⟩)
theorem sc_Matrix_transposed : FnScope ["self", "j", "row"] ["self"] (defScope s_Matrix_transposed) := ⟨rfl, rfl, rfl, by decide +kernel, rfl, by decide +kernel, by decide +kernel⟩
theorem d_Matrix_transposed (A : Am K C 22 "transposed" "Matrix.transposed" s_Matrix_transposed ["self"]) (h_range : mg "range" = none) (K_Matrix : CF K mg C 22 "Matrix" ["rows", "height", "width"]) (D_Matrix___init__ : Dm P w K mg base C 22 "__init__" 3 ["self", "rows"] [0] m_Matrix___init__) : Dm P w K mg base C 22 "transposed" 5 ["self"] [] m_Matrix_transposed :=
  Dm.mk' (k := 4) A sc_Matrix_transposed (by decide) (by decide) fun f cdv A outer s H E s0 W hr => dss_one (ds_ret (dmake D_Matrix___init__ K_Matrix.mkC (hr.mono (by decide)) (da_cons (dlc [("j", 1)] (di_range1 (by rfl) h_range (da_cons (dpeekF 0 22 (K_Matrix.fld "width")) (da_nil))) (by kernel_rfl) (fun _ _ _ _ _ => dname 1) (fun _ _ _ _ _ => dts_nil) (fun _ _ _ _ _ => dlc [("row", 2)] (di_seq (dpeekF 0 22 (K_Matrix.fld "rows"))) (by kernel_rfl) (fun _ _ _ _ _ => dname 2) (fun _ _ _ _ _ => dts_nil) (fun _ _ _ _ _ => dpeek 2 (dv 1)))) (da_nil))))

abbrev s__law_turned_fit : Stmt := topS 24
theorem sc__law_turned_fit : FnScope ["_law_one", "_law_first", "_law_n", "_law_width", "_law_row", "_law_item", "_law_j"] ["_law_one", "_law_first", "_law_n"] (defScope s__law_turned_fit) := ⟨rfl, rfl, rfl, by decide +kernel, rfl, by decide +kernel, by decide +kernel⟩
def b__law_turned_fit_e0 : M T := fUn gNeg (fVar 5)
def b__law_turned_fit_e1 : M T := fLc (iSeq (fVar 4)) (sName 5) (fYes) b__law_turned_fit_e0 [5]
def b__law_turned_fit_e2 : M T := fBin gMul (fVar 2) (fVar 5)
def b__law_turned_fit_e3 : M T := fLc (iSeq (fVar 4)) (sName 5) (fYes) b__law_turned_fit_e2 [5]
def b__law_turned_fit_e4 : M T := fPeek 4 (fVar 6)
def b__law_turned_fit_e5 : M T := fLc (iSeq (fVar 1)) (sName 4) (fYes) b__law_turned_fit_e4 [4]
def b__law_turned_fit : MS := fSeq (fSet 3 (fCB (g1 gLen) (fCons (fPeek 1 (fC (.int 0))) (fNil)))) (fSeq (fIfS (fNot (fTest (fCall m__law_is [] [none, none] (fCons (fUn2 (gO1 22 m_Matrix___neg__) (fVar 0)) (fCons (fLc (iSeq (fVar 1)) (sName 4) (fYes) b__law_turned_fit_e1 [4]) (fNil)))))) (fRet (fC (.bl false))) (fNext)) (fSeq (fIfS (fNot (fTest (fCall m__law_is [] [none, none] (fCons (fMeth 22 "scaled" m_Matrix_scaled [none] (fVar 0) (fCons (fVar 2) (fNil))) (fCons (fLc (iSeq (fVar 1)) (sName 4) (fYes) b__law_turned_fit_e3 [4]) (fNil)))))) (fRet (fC (.bl false))) (fNext)) (fRet (fCall m__law_is [] [none, none] (fCons (fMeth 22 "transposed" m_Matrix_transposed [] (fVar 0) fNil) (fCons (fLc (iArgs range1D (fCons (fVar 3) (fNil))) (sName 6) (fYes) b__law_turned_fit_e5 [6]) (fNil)))))))
def m__law_turned_fit : Mir := mirOf 7 [] b__law_turned_fit
theorem d__law_turned_fit (A : At K mg "_law_turned_fit" s__law_turned_fit ["_law_one", "_law_first", "_law_n"]) (h_len : mg "len" = none) (h_range : mg "range" = none) (K_Matrix : CF K mg C 22 "Matrix" ["rows", "height", "width"]) (D_Matrix___neg__ : Dm P w K mg base C 22 "__neg__" 5 ["self"] [] m_Matrix___neg__) (D__law_is : Df P w K mg base C "_law_is" 5 ["_law_told", "_law_rows"] [] m__law_is) (D_Matrix_scaled : Dm P w K mg base C 22 "scaled" 5 ["self", "n"] [] m_Matrix_scaled) (D_Matrix_transposed : Dm P w K mg base C 22 "transposed" 5 ["self"] [] m_Matrix_transposed) : Df P w K mg base C "_law_turned_fit" 6 ["_law_one", "_law_first", "_law_n"] [] m__law_turned_fit :=
  Df.mk' (k := 5) A sc__law_turned_fit (by decide) (by decide) fun f cdv A outer s H E s0 W hr => dss_cons (dset 3 (c_len h_len (da_cons (dpeek 1 (de_int)) (da_nil)))) (dss_cons (ds_if (dt_not (dt_val (dcall D__law_is [] (hr.mono (by decide)) (da_cons (de_unX (ux_neg D_Matrix___neg__ (hr.mono (by decide))) (dv 0)) (da_cons (dlc [("_law_row", 4)] (di_seq (dv 1)) (by kernel_rfl) (fun _ _ _ _ _ => dname 4) (fun _ _ _ _ _ => dts_nil) (fun _ _ _ _ _ => dlc [("_law_item", 5)] (di_seq (dv 4)) (by kernel_rfl) (fun _ _ _ _ _ => dname 5) (fun _ _ _ _ _ => dts_nil) (fun _ _ _ _ _ => de_un ud_neg (dv 5)))) (da_nil)))))) (dss_one (ds_ret (de_bl))) (dss_nil)) (dss_cons (ds_if (dt_not (dt_val (dcall D__law_is [] (hr.mono (by decide)) (da_cons (dmeth K_Matrix.cl D_Matrix_scaled (hr.mono (by decide)) (dv 0) (da_cons (dv 2) (da_nil))) (da_cons (dlc [("_law_row", 4)] (di_seq (dv 1)) (by kernel_rfl) (fun _ _ _ _ _ => dname 4) (fun _ _ _ _ _ => dts_nil) (fun _ _ _ _ _ => dlc [("_law_item", 5)] (di_seq (dv 4)) (by kernel_rfl) (fun _ _ _ _ _ => dname 5) (fun _ _ _ _ _ => dts_nil) (fun _ _ _ _ _ => de_op od_mul (dv 2) (dv 5)))) (da_nil)))))) (dss_one (ds_ret (de_bl))) (dss_nil)) (dss_one (ds_ret (dcall D__law_is [] (hr.mono (by decide)) (da_cons (dmeth0 K_Matrix.cl D_Matrix_transposed (hr.mono (by decide)) (dv 0)) (da_cons (dlc [("_law_j", 6)] (di_range1 (by rfl) h_range (da_cons (dv 3) (da_nil))) (by kernel_rfl) (fun _ _ _ _ _ => dname 6) (fun _ _ _ _ _ => dts_nil) (fun _ _ _ _ _ => dlc [("_law_row", 4)] (di_seq (dv 1)) (by kernel_rfl) (fun _ _ _ _ _ => dname 4) (fun _ _ _ _ _ => dts_nil) (fun _ _ _ _ _ => dpeek 4 (dv 6)))) (da_nil))))))))

abbrev s__law_product : Stmt := topS 19
theorem sc__law_product : FnScope ["_law_first", "_law_second", "_law_found", "_law_row", "_law_j", "_law_k"] ["_law_first", "_law_second"] (defScope s__law_product) := ⟨rfl, rfl, rfl, by decide +kernel, rfl, by decide +kernel, by decide +kernel⟩
theorem d__law_product (A : At K mg "_law_product" s__law_product ["_law_first", "_law_second"]) (h_range : mg "range" = none) (h_len : mg "len" = none) (h_sum : mg "sum" = none) : Df P w K mg base C "_law_product" 1 ["_law_first", "_law_second"] [] m__law_product :=
  Df.mk' (k := 0) A sc__law_product (by decide) (by decide) fun f cdv A outer s H E s0 W hr => dss_cons (dset 2 (de_lst (da_nil))) (dss_cons (ds_for (di_seq (dv 0)) (dname 3) (dss_cons (ds_expr (dappend 2 (de_lst (da_nil)))) (dss_one (ds_for (di_range1 (by rfl) h_range (da_cons (c_len h_len (da_cons (dpeek 1 (de_int)) (da_nil))) (da_nil))) (dname 4) (dss_one (ds_expr (dplApp (dp_ix (dp_name 2) (de_un ud_neg (de_int))) (c_sum h_sum (da_cons (dlc [("_law_k", 5)] (di_range1 (by rfl) h_range (da_cons (c_len h_len (da_cons (dv 1) (da_nil))) (da_nil))) (by kernel_rfl) (fun _ _ _ _ _ => dname 5) (fun _ _ _ _ _ => dts_nil) (fun _ _ _ _ _ => de_op od_mul (dpeek 3 (dv 5)) (de_ix (dpeek 1 (dv 5)) (dv 4)))) (da_nil)))))))))) (dss_one (ds_ret (dv 2))))

abbrev s_product_rows : Stmt := topS 11
theorem sc_product_rows : FnScope ["first", "second", "columns", "row", "column", "i", "j"] ["first", "second"] (defScope s_product_rows) := ⟨rfl, rfl, rfl, by decide +kernel, rfl, by decide +kernel, by decide +kernel⟩
theorem d_product_rows (A : At K mg "product_rows" s_product_rows ["first", "second"]) (h_list : mg "list" = none) (h_zip : mg "zip" = none) (h_sum : mg "sum" = none) (K_Matrix : CF K mg C 22 "Matrix" ["rows", "height", "width"]) (E_UnlikeShapes : Err P w K mg base C 4 "UnlikeShapes" ["self", "first", "second"] (spE2 K (C 4) "first" "second")) : Df P w K mg base C "product_rows" 3 ["first", "second"] [] m_product_rows :=
  Df.mk' (k := 2) A sc_product_rows (by decide) (by decide) fun f cdv A outer s H E s0 W hr => dss_cons (ds_if (dt_cmp (od_ne2 hr rfl) (dpeekF 0 22 (K_Matrix.fld "width")) (dpeekF 1 22 (K_Matrix.fld "height"))) (dss_one (draise2 E_UnlikeShapes (hr.mono (by decide)) (da_cons (de_tup (da_cons (dpeekF 0 22 (K_Matrix.fld "height")) (da_cons (dpeekF 0 22 (K_Matrix.fld "width")) (da_nil)))) (da_cons (de_tup (da_cons (dpeekF 1 22 (K_Matrix.fld "height")) (da_cons (dpeekF 1 22 (K_Matrix.fld "width")) (da_nil)))) (da_nil))))) (dss_nil)) (dss_cons (dset 2 (de_listzipS h_list h_zip (dpeekF 1 22 (K_Matrix.fld "rows")))) (dss_one (ds_ret (dlc [("row", 3)] (di_seq (dpeekF 0 22 (K_Matrix.fld "rows"))) (by kernel_rfl) (fun _ _ _ _ _ => dname 3) (fun _ _ _ _ _ => dts_nil) (fun _ _ _ _ _ => dlc [("column", 4)] (di_seq (dv 2)) (by kernel_rfl) (fun _ _ _ _ _ => dname 4) (fun _ _ _ _ _ => dts_nil) (fun _ _ _ _ _ => c_sum h_sum (da_cons (dlc [("i", 5), ("j", 6)] (di_zip (by rfl) h_zip (da_cons (dv 3) (da_cons (dv 4) (da_nil)))) (by kernel_rfl) (fun _ _ _ _ _ => dg_tup (dgs_cons (dname 5) (dgs_cons (dname 6) (dgs_nil))) (hl := (sCons_len (sCons_len (fun _ _ _ h => sNil_len h))))) (fun _ _ _ _ _ => dts_nil) (fun _ _ _ _ _ => de_op od_mul (dv 5) (dv 6))) (da_nil))))))))

abbrev s_Matrix___mul__ : Stmt := (clsBody (topS 9)).getD 8 (.Pass ⟨0, 0, 0, 0⟩)
theorem sc_Matrix___mul__ : FnScope ["self", "other"] ["self", "other"] (defScope s_Matrix___mul__) := ⟨rfl, rfl, rfl, by decide +kernel, rfl, by decide +kernel, by decide +kernel⟩
theorem d_Matrix___mul__ (A : Am K C 22 "__mul__" "Matrix.__mul__" s_Matrix___mul__ ["self", "other"]) (K_Matrix : CF K mg C 22 "Matrix" ["rows", "height", "width"]) (D_product_rows : Df P w K mg base C "product_rows" 3 ["first", "second"] [] m_product_rows) (D_Matrix___init__ : Dm P w K mg base C 22 "__init__" 3 ["self", "rows"] [0] m_Matrix___init__) : Dm P w K mg base C 22 "__mul__" 5 ["self", "other"] [] m_Matrix___mul__ :=
  Dm.mk' (k := 4) A sc_Matrix___mul__ (by decide) (by decide) fun f cdv A outer s H E s0 W hr => dss_one (ds_ret (dmake D_Matrix___init__ K_Matrix.mkC (hr.mono (by decide)) (da_cons (dcall D_product_rows [] (hr.mono (by decide)) (da_cons (dv 0) (da_cons (dv 1) (da_nil)))) (da_nil))))

abbrev s_Matrix_part : Stmt := (clsBody (topS 9)).getD 13 (.Pass ⟨0, 0, 0, 0⟩)
theorem sc_Matrix_part : FnScope ["self", "rows", "columns", "i", "j"] ["self", "rows", "columns"] (defScope s_Matrix_part) := ⟨rfl, rfl, rfl, by decide +kernel, rfl, by decide +kernel, by decide +kernel⟩
theorem d_Matrix_part (A : Am K C 22 "part" "Matrix.part" s_Matrix_part ["self", "rows", "columns"]) (K_Matrix : CF K mg C 22 "Matrix" ["rows", "height", "width"]) (D_Matrix___init__ : Dm P w K mg base C 22 "__init__" 3 ["self", "rows"] [0] m_Matrix___init__) : Dm P w K mg base C 22 "part" 5 ["self", "rows", "columns"] [] m_Matrix_part :=
  Dm.mk' (k := 4) A sc_Matrix_part (by decide) (by decide) fun f cdv A outer s H E s0 W hr => dss_one (ds_ret (dmake D_Matrix___init__ K_Matrix.mkC (hr.mono (by decide)) (da_cons (dlc [("i", 3)] (di_seq (dv 1)) (by kernel_rfl) (fun _ _ _ _ _ => dname 3) (fun _ _ _ _ _ => dts_nil) (fun _ _ _ _ _ => dlc [("j", 4)] (di_seq (dv 2)) (by kernel_rfl) (fun _ _ _ _ _ => dname 4) (fun _ _ _ _ _ => dts_nil) (fun _ _ _ _ _ => de_ix (de_ix (dpeekF 0 22 (K_Matrix.fld "rows")) (dv 3)) (dv 4)))) (da_nil))))

abbrev s_Matrix_diagonal : Stmt := (clsBody (topS 9)).getD 2 (.Pass ⟨0, 0, 0, 0⟩)
theorem sc_Matrix_diagonal : FnScope ["cls", "numbers", "height", "width", "rows", "at", "number", "i"] ["cls", "numbers", "height", "width"] (defScope s_Matrix_diagonal) := ⟨rfl, rfl, rfl, by decide +kernel, rfl, by decide +kernel, by decide +kernel⟩
theorem d_Matrix_diagonal (A : Ac K C 22 "diagonal" "Matrix.diagonal" s_Matrix_diagonal ["cls", "numbers", "height", "width"]) (h_range : mg "range" = none) (h_enumerate : mg "enumerate" = none) (K_Matrix : CF K mg C 22 "Matrix" ["rows", "height", "width"]) (D_Matrix___init__ : Dm P w K mg base C 22 "__init__" 3 ["self", "rows"] [0] m_Matrix___init__) : Dc P w K mg base C 22 "diagonal" 5 ["cls", "numbers", "height", "width"] m_Matrix_diagonal :=
  Dc.mk' (k := 4) A sc_Matrix_diagonal fun f cdv A outer s H E s0 W hr => dss_cons (dsetLc 4 [("i", 7)] (di_range1 (by rfl) h_range (da_cons (dv 2) (da_nil))) (by kernel_rfl) (fun _ _ _ _ _ => dname 7) (fun _ _ _ _ _ => dts_nil) (fun _ _ _ _ _ => de_rep (de_lst (da_cons (de_int) (da_nil))) (dv 3)) (by decide +kernel)) (dss_cons (ds_for (di_enum (by rfl) h_enumerate (da_cons (dv 1) (da_nil))) (dg_tup (dgs_cons (dname 5) (dgs_cons (dname 6) (dgs_nil))) (hl := (sCons_len (sCons_len (fun _ _ _ h => sNil_len h))))) (dss_one (ds_asg (dv 6) (dg_plPut (dp_ix (dp_name 4) (dv 5)) (dv 5))))) (dss_one (ds_ret (de_ro (dmakeL 0 D_Matrix___init__ K_Matrix.mks K_Matrix.kp (hr.mono (by decide)) (da_cons (dv 4) (da_nil)))))))

abbrev s_Matrix_unit : Stmt := (clsBody (topS 9)).getD 1 (.Pass ⟨0, 0, 0, 0⟩)
theorem sc_Matrix_unit : FnScope ["cls", "n"] ["cls", "n"] (defScope s_Matrix_unit) := ⟨rfl, rfl, rfl, by decide +kernel, rfl, by decide +kernel, by decide +kernel⟩
theorem d_Matrix_unit (A : Ac K C 22 "unit" "Matrix.unit" s_Matrix_unit ["cls", "n"]) (D_Matrix_diagonal : Dc P w K mg base C 22 "diagonal" 5 ["cls", "numbers", "height", "width"] m_Matrix_diagonal) : Dc P w K mg base C 22 "unit" 6 ["cls", "n"] m_Matrix_unit :=
  Dc.mk' (k := 5) A sc_Matrix_unit fun f cdv A outer s H E s0 W hr => dss_one (ds_ret (dcm D_Matrix_diagonal (hr.mono (by decide)) (dv 0) (da_cons (de_rep (de_lst (da_cons (de_int) (da_nil))) (dv 1)) (da_cons (dv 1) (da_cons (dv 1) (da_nil))))))

abbrev s__law_parts_fit : Stmt := topS 25
theorem sc__law_parts_fit : FnScope ["_law_pool_here", "_law_one", "_law_first", "_law_n", "_law_height", "_law_width", "_law_lines", "_law_columns", "_law_corner", "_law_k", "_law_i", "_law_j"] ["_law_pool_here", "_law_one", "_law_first", "_law_n"] (defScope s__law_parts_fit) := ⟨rfl, rfl, rfl, by decide +kernel, rfl, by decide +kernel, by decide +kernel⟩
def b__law_parts_fit_e0 : M T := fCall m__law_take [0] [some 0, none] (fMove 0 (fCons (fVar 4) (fNil)))
def b__law_parts_fit_e1 : M T := fBin gIx (fPeek 2 (fVar 10)) (fVar 11)
def b__law_parts_fit_e2 : M T := fLc (iSeq (fVar 7)) (sName 11) (fYes) b__law_parts_fit_e1 [11]
def b__law_parts_fit_e3 : M T := fCB (g1 gInt) (fCons (fBin (gEq2 false) (fVar 10) (fVar 11)) (fNil))
def b__law_parts_fit_e4 : M T := fLc (iArgs range1D (fCons (fVar 5) (fNil))) (sName 11) (fYes) b__law_parts_fit_e3 [11]
def b__law_parts_fit_e5 : M T := fRep (fLst (fCons (fC (.int 0)) (fNil))) (fVar 5)
def b__law_parts_fit : MS := fSeq (fSet 4 (fCB (g1 gLen) (fCons (fVar 2) (fNil)))) (fSeq (fSet 5 (fCB (g1 gLen) (fCons (fPeek 2 (fC (.int 0))) (fNil)))) (fSeq (fSet 6 (fLc (iArgs range1D (fCons (fBin gAdd2 (fC (.int 1)) (fCall m__law_take [0] [some 0, none] (fMove 0 (fCons (fC (.int 3)) (fNil))))) (fNil))) (sName 9) (fYes) b__law_parts_fit_e0 [9])) (fSeq (fSet 7 (fLst (fCons (fCall m__law_take [0] [some 0, none] (fMove 0 (fCons (fVar 5) (fNil)))) (fCons (fC (.int 0)) (fNil))))) (fSeq (fIfS (fNot (fTest (fCall m__law_is [] [none, none] (fCons (fMeth 22 "part" m_Matrix_part [none, none] (fVar 1) (fCons (fVar 6) (fCons (fVar 7) (fNil)))) (fCons (fLc (iSeq (fVar 6)) (sName 10) (fYes) b__law_parts_fit_e2 [10]) (fNil)))))) (fRet (fC (.bl false))) (fNext)) (fSeq (fIfS (fNot (fTest (fCall m__law_is [] [none, none] (fCons (fCm 22 m_Matrix_unit [none] (fC (.cls 22)) (fCons (fVar 5) (fNil))) (fCons (fLc (iArgs range1D (fCons (fVar 5) (fNil))) (sName 10) (fYes) b__law_parts_fit_e4 [10]) (fNil)))))) (fRet (fC (.bl false))) (fNext)) (fSeq (fSet 8 (fLc (iArgs range1D (fCons (fVar 4) (fNil))) (sName 10) (fYes) b__law_parts_fit_e5 [10])) (fSeq (fAsg (fVar 3) (sPlPut (fPlIx (fPl 8) (fC (.int 0))) (fC (.int 0)))) (fRet (fRo (fCall m__law_is [] [none, none] (fCons (fCm 22 m_Matrix_diagonal [none, none, none] (fC (.cls 22)) (fCons (fLst (fCons (fVar 3) (fNil))) (fCons (fVar 4) (fCons (fVar 5) (fNil))))) (fCons (fVar 8) (fNil)))))))))))))
def m__law_parts_fit : Mir := mirOf 12 [0] b__law_parts_fit
theorem d__law_parts_fit (A : At K mg "_law_parts_fit" s__law_parts_fit ["_law_pool_here", "_law_one", "_law_first", "_law_n"]) (h_len : mg "len" = none) (h_range : mg "range" = none) (h_int : mg "int" = none) (K_Matrix : CF K mg C 22 "Matrix" ["rows", "height", "width"]) (D__law_take : Df P w K mg base C "_law_take" 1 ["_law_pool_here", "_law_limit"] [0] m__law_take) (D_Matrix_part : Dm P w K mg base C 22 "part" 5 ["self", "rows", "columns"] [] m_Matrix_part) (D__law_is : Df P w K mg base C "_law_is" 5 ["_law_told", "_law_rows"] [] m__law_is) (D_Matrix_unit : Dc P w K mg base C 22 "unit" 6 ["cls", "n"] m_Matrix_unit) (D_Matrix_diagonal : Dc P w K mg base C 22 "diagonal" 5 ["cls", "numbers", "height", "width"] m_Matrix_diagonal) : Df P w K mg base C "_law_parts_fit" 7 ["_law_pool_here", "_law_one", "_law_first", "_law_n"] [0] m__law_parts_fit :=
  Df.mk' (k := 6) A sc__law_parts_fit (by decide) (by decide) fun f cdv A outer s H E s0 W hr => dss_cons (dset 4 (c_len h_len (da_cons (dv 2) (da_nil)))) (dss_cons (dset 5 (c_len h_len (da_cons (dpeek 2 (de_int)) (da_nil)))) (dss_cons (dsetLc 6 [("_law_k", 9)] (di_range1 (by rfl) h_range (da_cons (de_op (od_add2 rfl) (de_int) (dcall D__law_take [0] (hr.mono (by decide)) (dmove 0 (da_cons (de_int) (da_nil))))) (da_nil))) (by kernel_rfl) (fun _ _ _ _ _ => dname 9) (fun _ _ _ _ _ => dts_nil) (fun _ _ _ _ _ => dcall D__law_take [0] (hr.mono (by decide)) (dmove 0 (da_cons (dv 4) (da_nil)))) (by decide +kernel)) (dss_cons (dset 7 (de_lst (da_cons (dcall D__law_take [0] (hr.mono (by decide)) (dmove 0 (da_cons (dv 5) (da_nil)))) (da_cons (de_int) (da_nil))))) (dss_cons (ds_if (dt_not (dt_val (dcall D__law_is [] (hr.mono (by decide)) (da_cons (dmeth K_Matrix.cl D_Matrix_part (hr.mono (by decide)) (dv 1) (da_cons (dv 6) (da_cons (dv 7) (da_nil)))) (da_cons (dlc [("_law_i", 10)] (di_seq (dv 6)) (by kernel_rfl) (fun _ _ _ _ _ => dname 10) (fun _ _ _ _ _ => dts_nil) (fun _ _ _ _ _ => dlc [("_law_j", 11)] (di_seq (dv 7)) (by kernel_rfl) (fun _ _ _ _ _ => dname 11) (fun _ _ _ _ _ => dts_nil) (fun _ _ _ _ _ => de_ix (dpeek 2 (dv 10)) (dv 11)))) (da_nil)))))) (dss_one (ds_ret (de_bl))) (dss_nil)) (dss_cons (ds_if (dt_not (dt_val (dcall D__law_is [] (hr.mono (by decide)) (da_cons (dcm D_Matrix_unit (hr.mono (by decide)) (de_clsG K_Matrix.gl) (da_cons (dv 5) (da_nil))) (da_cons (dlc [("_law_i", 10)] (di_range1 (by rfl) h_range (da_cons (dv 5) (da_nil))) (by kernel_rfl) (fun _ _ _ _ _ => dname 10) (fun _ _ _ _ _ => dts_nil) (fun _ _ _ _ _ => dlc [("_law_j", 11)] (di_range1 (by rfl) h_range (da_cons (dv 5) (da_nil))) (by kernel_rfl) (fun _ _ _ _ _ => dname 11) (fun _ _ _ _ _ => dts_nil) (fun _ _ _ _ _ => c_int h_int (da_cons (de_cmp (od_eq2 hr rfl) (dv 10) (dv 11)) (da_nil))))) (da_nil)))))) (dss_one (ds_ret (de_bl))) (dss_nil)) (dss_cons (dsetLc 8 [("_law_i", 10)] (di_range1 (by rfl) h_range (da_cons (dv 4) (da_nil))) (by kernel_rfl) (fun _ _ _ _ _ => dname 10) (fun _ _ _ _ _ => dts_nil) (fun _ _ _ _ _ => de_rep (de_lst (da_cons (de_int) (da_nil))) (dv 5)) (by decide +kernel)) (dss_cons (ds_asg (dv 3) (dg_plPut (dp_ix (dp_name 8) (de_int)) (de_int))) (dss_one (ds_ret (de_ro (dcall D__law_is [] (hr.mono (by decide)) (da_cons (dcm D_Matrix_diagonal (hr.mono (by decide)) (de_clsG K_Matrix.gl) (da_cons (de_lst (da_cons (dv 3) (da_nil))) (da_cons (dv 4) (da_cons (dv 5) (da_nil))))) (da_cons (dv 8) (da_nil))))))))))))))

abbrev s__law_refused : Stmt := topS 21
theorem sc__law_refused : FnScope ["_law_rows", "e"] ["_law_rows"] (defScope s__law_refused) := ⟨rfl, rfl, rfl, by decide +kernel, rfl, by decide +kernel, by decide +kernel⟩
def b__law_refused_b0 : MS := fExpr (fMake 22 m_Matrix___init__ [none] (fCons (fVar 0) (fNil)))
def b__law_refused : MS := fSeq (fTry [2, 3, 4] b__law_refused_b0 ((3, some 1, fXf 1 3 "at") :: [])) (fRet (fC .non))
def m__law_refused : Mir := mirOf 2 [] b__law_refused
theorem d__law_refused (A : At K mg "_law_refused" s__law_refused ["_law_rows"]) (K_Matrix : CF K mg C 22 "Matrix" ["rows", "height", "width"]) (D_Matrix___init__ : Dm P w K mg base C 22 "__init__" 3 ["self", "rows"] [0] m_Matrix___init__) (Q_BadRow : Caught K mg C [2, 3, 4] 3 "BadRow" ["at"]) : Df P w K mg base C "_law_refused" 5 ["_law_rows"] [] m__law_refused :=
  Df.mk' (k := 4) A sc__law_refused (by decide) (by decide) fun f cdv A outer s H E s0 W hr => dss_cons (ds_try (fun _ _ _ => dss_one (ds_expr (dmake D_Matrix___init__ K_Matrix.mkC (hr.mono (by decide)) (da_cons (dv 0) (da_nil))))) (HM.consA 1 Q_BadRow.exm Q_BadRow.gl (he_xf 1 Q_BadRow.xf (Q_BadRow.no _ (by simp))) (HM.nil))) (dss_one (ds_ret (de_non)))

abbrev s_law : Stmt := topS 26
theorem sc_law : FnScope ["_law_script", "_law_pool_here", "_law_height", "_law_width", "_law_depth", "_law_first", "_law_second", "_law_third", "_law_passed", "_law_one", "_law_two", "_law_last", "_law_n", "_law_turn", "_law_at", "_law_row"] ["_law_script"] (defScope s_law) := ⟨rfl, rfl, rfl, by decide +kernel, rfl, by decide +kernel, by decide +kernel⟩
def b_law_e0 : M T := fCB (g1 gList) (fCons (fVar 15) (fNil))
def b_law_e1 : M T := fCB (g1 gTuple) (fCons (fVar 15) (fNil))
def b_law_f0 : MS := fSeq (fIfS (fOr (fNot (fTest (fCall m__law_pairs_fit [] [none, none, none, none] (fCons (fVar 9) (fCons (fVar 10) (fCons (fVar 5) (fCons (fVar 6) (fNil)))))))) (fNot (fTest (fCall m__law_turned_fit [] [none, none, none] (fCons (fVar 9) (fCons (fVar 5) (fCons (fVar 12) (fNil)))))))) (fRet (fC (.bl false))) (fNext)) (fIfS (fNot (fTest (fCall m__law_is [] [none, none] (fCons (fBin2 (gO 22 m_Matrix___mul__) (fVar 9) (fVar 11)) (fCons (fCall m__law_product [] [none, none] (fCons (fVar 5) (fCons (fVar 7) (fNil)))) (fNil)))))) (fRet (fC (.bl false))) (fNext))
def b_law : MS := fSeq (fSet 1 (fCall m__law_pool [] [none] (fCons (fCall m__law_cell [] [none, none] (fCons (fVar 0) (fCons (fC (.int 0)) (fNil)))) (fNil)))) (fSeq (fAsg (fCall m__law_shape [1] [some 1] (fMove 1 (fNil))) (sLst (sCons (sName 2) (sCons (sName 3) (sNil))))) (fSeq (fSet 4 (fBin gAdd2 (fC (.int 1)) (fCall m__law_take [1] [some 1, none] (fMove 1 (fCons (fC (.int 4)) (fNil)))))) (fSeq (fSet 5 (fCallT m__law_made [some 0, none, none] 1 (fCons (fCall m__law_pool [] [none] (fCons (fCall m__law_cell [] [none, none] (fCons (fVar 0) (fCons (fC (.int 1)) (fNil)))) (fNil))) (fCons (fVar 2) (fCons (fVar 3) (fNil)))))) (fSeq (fSet 6 (fCallT m__law_made [some 0, none, none] 1 (fCons (fCall m__law_pool [] [none] (fCons (fCall m__law_cell [] [none, none] (fCons (fVar 0) (fCons (fC (.int 2)) (fNil)))) (fNil))) (fCons (fVar 2) (fCons (fVar 3) (fNil)))))) (fSeq (fSet 7 (fCallT m__law_made [some 0, none, none] 1 (fCons (fCall m__law_pool [] [none] (fCons (fCall m__law_cell [] [none, none] (fCons (fVar 0) (fCons (fC (.int 3)) (fNil)))) (fNil))) (fCons (fVar 3) (fCons (fVar 4) (fNil)))))) (fSeq (fSet 8 (fLc (iSeq (fVar 5)) (sName 15) (fYes) b_law_e0 [15])) (fSeq (fSet 9 (fRo (fMake 22 m_Matrix___init__ [none] (fCons (fVar 8) (fNil))))) (fSeq (fIfS (fRoT (fTestB (fBin (gEq2 true) (fVar 8) (fVar 5)))) (fRet (fC (.bl false))) (fNext)) (fSeq (fAsg (fRo (fBin gAdd2 (fBin gIx (fBin gIx (fVar 8) (fC (.int 0))) (fC (.int 0))) (fC (.int 1)))) (sPlPut (fPlIx (fPl 8) (fC (.int 0))) (fC (.int 0)))) (fSeq (fSet 10 (fMake 22 m_Matrix___init__ [none] (fCons (fCB (g1 gTuple) (fCons (fBin gAdd2 (fLst (fCons (fCB (g1 gTuple) (fCons (fBin gIx (fVar 6) (fC (.int 0))) (fNil))) (fNil))) (fSl (fVar 6) (fPt (fC (.int 1))) fNoP)) (fNil))) (fNil)))) (fSeq (fSet 11 (fMake 22 m_Matrix___init__ [none] (fCons (fLc (iSeq (fVar 7)) (sName 15) (fYes) b_law_e1 [15]) (fNil)))) (fSeq (fSet 12 (fBin gSub (fCall m__law_take [1] [some 1, none] (fMove 1 (fCons (fC (.int 41)) (fNil)))) (fC (.int 20)))) (fSeq (fFor (iArgs range1D (fCons (fC (.int 2)) (fNil))) (sName 13) b_law_f0) (fSeq (fIfS (fOr (fNot (fTest (fCall m__law_parts_fit [1] [some 1, none, none, none] (fMove 1 (fCons (fVar 9) (fCons (fVar 5) (fCons (fVar 12) (fNil)))))))) (fTestB (fBin2 (gEqA 22 m_Matrix___eq__) (fVar 9) (fVar 5)))) (fRet (fC (.bl false))) (fNext)) (fSeq (fIfS (fOr (fTestB (fBin (gEq2 true) (fBin2 (gEqA 22 m_Matrix___eq__) (fVar 9) (fVar 10)) (fBin (gEq2 false) (fVar 5) (fVar 6)))) (fNot (fTest (fCall m__law_is [] [none, none] (fCons (fVar 9) (fCons (fVar 5) (fNil))))))) (fRet (fC (.bl false))) (fNext)) (fSeq (fIfS (fOr (fNot (fTest (fCall m__law_is [] [none, none] (fCons (fVar 10) (fCons (fVar 6) (fNil)))))) (fNot (fTest (fCall m__law_is [] [none, none] (fCons (fVar 11) (fCons (fVar 7) (fNil))))))) (fRet (fC (.bl false))) (fNext)) (fSeq (fSet 14 (fBin gAdd2 (fC (.int 1)) (fCall m__law_take [1] [some 1, none] (fMove 1 (fCons (fC (.int 3)) (fNil)))))) (fSeq (fIfS (fTestB (fBin (gEq2 true) (fCall m__law_refused [] [none] (fCons (fBin gAdd2 (fRep (fLst (fCons (fLst (fCons (fC (.int 1)) (fCons (fC (.int 2)) (fNil)))) (fNil))) (fVar 14)) (fLst (fCons (fLst (fCons (fC (.int 1)) (fCons (fC (.int 2)) (fCons (fC (.int 3)) (fNil))))) (fCons (fLst (fCons (fC (.int 4)) (fNil))) (fNil))))) (fNil))) (fVar 14))) (fRet (fC (.bl false))) (fNext)) (fRet (fBin (gEq2 false) (fCall m__law_refused [] [none] (fCons (fBin gAdd2 (fRep (fLst (fCons (fLst (fCons (fC (.int 1)) (fCons (fC (.int 2)) (fNil)))) (fNil))) (fVar 14)) (fLst (fCons (fLst (fCons (fC (.int 1)) (fNil))) (fCons (fLst (fCons (fC (.int 1)) (fCons (fC (.int 2)) (fNil)))) (fNil))))) (fNil))) (fVar 14)))))))))))))))))))))
def m_law : Mir := mirOf 16 [] b_law
theorem d_law {fL : Addr} {fdL : FuncData} (A : Fun K "law" "law" s_law fL fdL) (h_list : mg "list" = none) (h_tuple : mg "tuple" = none) (h_range : mg "range" = none) (K_Matrix : CF K mg C 22 "Matrix" ["rows", "height", "width"]) (D__law_cell : Df P w K mg base C "_law_cell" 1 ["_law_script", "_law_k"] [] m__law_cell) (D__law_pool : Df P w K mg base C "_law_pool" 1 ["_law_cell_here"] [] m__law_pool) (D__law_shape : Df P w K mg base C "_law_shape" 2 ["_law_pool_here"] [0] m__law_shape) (D__law_take : Df P w K mg base C "_law_take" 1 ["_law_pool_here", "_law_limit"] [0] m__law_take) (D__law_made : Df P w K mg base C "_law_made" 3 ["_law_pool_here", "_law_height", "_law_width"] [0] m__law_made) (D_Matrix___init__ : Dm P w K mg base C 22 "__init__" 3 ["self", "rows"] [0] m_Matrix___init__) (D__law_pairs_fit : Df P w K mg base C "_law_pairs_fit" 6 ["_law_one", "_law_two", "_law_first", "_law_second"] [] m__law_pairs_fit) (D__law_turned_fit : Df P w K mg base C "_law_turned_fit" 6 ["_law_one", "_law_first", "_law_n"] [] m__law_turned_fit) (D__law_product : Df P w K mg base C "_law_product" 1 ["_law_first", "_law_second"] [] m__law_product) (D_Matrix___mul__ : Dm P w K mg base C 22 "__mul__" 5 ["self", "other"] [] m_Matrix___mul__) (D__law_is : Df P w K mg base C "_law_is" 5 ["_law_told", "_law_rows"] [] m__law_is) (D__law_parts_fit : Df P w K mg base C "_law_parts_fit" 7 ["_law_pool_here", "_law_one", "_law_first", "_law_n"] [0] m__law_parts_fit) (D_Matrix___eq__ : Dm P w K mg base C 22 "__eq__" 1 ["self", "other"] [] m_Matrix___eq__) (D__law_refused : Df P w K mg base C "_law_refused" 5 ["_law_rows"] [] m__law_refused) : FnOk P w K mg base (L2.CX P w) 8 fL fdL ["_law_script"] (spOf ⟨K, C⟩ 1 [] m_law) :=
  fn_mk' (k := 7) A sc_law (by decide) (by decide) fun f cdv A outer s H E s0 W hr => dss_cons (dset 1 (dcall D__law_pool [] (hr.mono (by decide)) (da_cons (dcall D__law_cell [] (hr.mono (by decide)) (da_cons (dv 0) (da_cons (de_int) (da_nil)))) (da_nil)))) (dss_cons (ds_asg (dcall D__law_shape [1] (hr.mono (by decide)) (dmove 1 (da_nil))) (dg_lst (dgs_cons (dname 2) (dgs_cons (dname 3) (dgs_nil))) (hl := (sCons_len (sCons_len (fun _ _ _ h => sNil_len h)))))) (dss_cons (dset 4 (de_op (od_add2 rfl) (de_int) (dcall D__law_take [1] (hr.mono (by decide)) (dmove 1 (da_cons (de_int) (da_nil)))))) (dss_cons (dset 5 (dcallT D__law_made [some 0, none, none] (hr.mono (by decide)) (da_cons (dcall D__law_pool [] (hr.mono (by decide)) (da_cons (dcall D__law_cell [] (hr.mono (by decide)) (da_cons (dv 0) (da_cons (de_int) (da_nil)))) (da_nil))) (da_cons (dv 2) (da_cons (dv 3) (da_nil)))))) (dss_cons (dset 6 (dcallT D__law_made [some 0, none, none] (hr.mono (by decide)) (da_cons (dcall D__law_pool [] (hr.mono (by decide)) (da_cons (dcall D__law_cell [] (hr.mono (by decide)) (da_cons (dv 0) (da_cons (de_int) (da_nil)))) (da_nil))) (da_cons (dv 2) (da_cons (dv 3) (da_nil)))))) (dss_cons (dset 7 (dcallT D__law_made [some 0, none, none] (hr.mono (by decide)) (da_cons (dcall D__law_pool [] (hr.mono (by decide)) (da_cons (dcall D__law_cell [] (hr.mono (by decide)) (da_cons (dv 0) (da_cons (de_int) (da_nil)))) (da_nil))) (da_cons (dv 3) (da_cons (dv 4) (da_nil)))))) (dss_cons (dsetLc 8 [("_law_row", 15)] (di_seq (dv 5)) (by kernel_rfl) (fun _ _ _ _ _ => dname 15) (fun _ _ _ _ _ => dts_nil) (fun _ _ _ _ _ => c_list h_list (da_cons (dv 15) (da_nil))) (by decide +kernel)) (dss_cons (dset 9 (de_ro (dmake D_Matrix___init__ K_Matrix.mkC (hr.mono (by decide)) (da_cons (dv 8) (da_nil))))) (dss_cons (ds_if (dt_ro (dt_cmp (od_ne2 hr rfl) (dv 8) (dv 5))) (dss_one (ds_ret (de_bl))) (dss_nil)) (dss_cons (ds_asg (de_ro (de_op (od_add2 rfl) (de_ix (de_ix (dv 8) (de_int)) (de_int)) (de_int))) (dg_plPut (dp_ix (dp_name 8) (de_int)) (de_int))) (dss_cons (dset 10 (dmake D_Matrix___init__ K_Matrix.mkC (hr.mono (by decide)) (da_cons (c_tuple h_tuple (da_cons (de_op (od_add2 rfl) (de_lst (da_cons (c_tuple h_tuple (da_cons (de_ix (dv 6) (de_int)) (da_nil))) (da_nil))) (de_slice (dv 6) (do_some (de_int)) do_none)) (da_nil))) (da_nil)))) (dss_cons (dset 11 (dmake D_Matrix___init__ K_Matrix.mkC (hr.mono (by decide)) (da_cons (dlc [("_law_row", 15)] (di_seq (dv 7)) (by kernel_rfl) (fun _ _ _ _ _ => dname 15) (fun _ _ _ _ _ => dts_nil) (fun _ _ _ _ _ => c_tuple h_tuple (da_cons (dv 15) (da_nil)))) (da_nil)))) (dss_cons (dset 12 (de_op od_sub (dcall D__law_take [1] (hr.mono (by decide)) (dmove 1 (da_cons (de_int) (da_nil)))) (de_int))) (dss_cons (ds_for (di_range1 (by rfl) h_range (da_cons (de_int) (da_nil))) (dname 13) (dss_cons (ds_if (DW.dt (dw_or (dt_not (dt_val (dcall D__law_pairs_fit [] (hr.mono (by decide)) (da_cons (dv 9) (da_cons (dv 10) (da_cons (dv 5) (da_cons (dv 6) (da_nil)))))))) (dw_or1 (dt_not (dt_val (dcall D__law_turned_fit [] (hr.mono (by decide)) (da_cons (dv 9) (da_cons (dv 5) (da_cons (dv 12) (da_nil)))))))))) (dss_one (ds_ret (de_bl))) (dss_nil)) (dss_one (ds_if (dt_not (dt_val (dcall D__law_is [] (hr.mono (by decide)) (da_cons (de_opX (ox_bin D_Matrix___mul__ (hr.mono (by decide)) K_Matrix.sf) (dv 9) (dv 11)) (da_cons (dcall D__law_product [] (hr.mono (by decide)) (da_cons (dv 5) (da_cons (dv 7) (da_nil)))) (da_nil)))))) (dss_one (ds_ret (de_bl))) (dss_nil))))) (dss_cons (ds_if (DW.dt (dw_or (dt_not (dt_val (dcall D__law_parts_fit [1] (hr.mono (by decide)) (dmove 1 (da_cons (dv 9) (da_cons (dv 5) (da_cons (dv 12) (da_nil)))))))) (dw_or1 (dt_cmpX (ox_eqA D_Matrix___eq__ K_Matrix.nf (hr.mono (by decide))) (dv 9) (dv 5))))) (dss_one (ds_ret (de_bl))) (dss_nil)) (dss_cons (ds_if (DW.dt (dw_or (dt_cmp (od_ne2 hr rfl) (de_cmpX (ox_eqA D_Matrix___eq__ K_Matrix.nf (hr.mono (by decide))) (dv 9) (dv 10)) (de_cmp (od_eq2 hr rfl) (dv 5) (dv 6))) (dw_or1 (dt_not (dt_val (dcall D__law_is [] (hr.mono (by decide)) (da_cons (dv 9) (da_cons (dv 5) (da_nil))))))))) (dss_one (ds_ret (de_bl))) (dss_nil)) (dss_cons (ds_if (DW.dt (dw_or (dt_not (dt_val (dcall D__law_is [] (hr.mono (by decide)) (da_cons (dv 10) (da_cons (dv 6) (da_nil)))))) (dw_or1 (dt_not (dt_val (dcall D__law_is [] (hr.mono (by decide)) (da_cons (dv 11) (da_cons (dv 7) (da_nil))))))))) (dss_one (ds_ret (de_bl))) (dss_nil)) (dss_cons (dset 14 (de_op (od_add2 rfl) (de_int) (dcall D__law_take [1] (hr.mono (by decide)) (dmove 1 (da_cons (de_int) (da_nil)))))) (dss_cons (ds_if (dt_cmp (od_ne2 hr rfl) (dcall D__law_refused [] (hr.mono (by decide)) (da_cons (de_op (od_add2 rfl) (de_rep (de_lst (da_cons (de_lst (da_cons (de_int) (da_cons (de_int) (da_nil)))) (da_nil))) (dv 14)) (de_lst (da_cons (de_lst (da_cons (de_int) (da_cons (de_int) (da_cons (de_int) (da_nil))))) (da_cons (de_lst (da_cons (de_int) (da_nil))) (da_nil))))) (da_nil))) (dv 14)) (dss_one (ds_ret (de_bl))) (dss_nil)) (dss_one (ds_ret (de_cmp (od_eq2 hr rfl) (dcall D__law_refused [] (hr.mono (by decide)) (da_cons (de_op (od_add2 rfl) (de_rep (de_lst (da_cons (de_lst (da_cons (de_int) (da_cons (de_int) (da_nil)))) (da_nil))) (dv 14)) (de_lst (da_cons (de_lst (da_cons (de_int) (da_nil))) (da_cons (de_lst (da_cons (de_int) (da_cons (de_int) (da_nil)))) (da_nil))))) (da_nil))) (dv 14))))))))))))))))))))))

end
end K41

set_option maxHeartbeats 4000000
namespace K41
open PySem PySem.Spec PyProof.Rows L2 DL
@[simp] theorem ne_beside_rows : (Str.ofString "beside" = Str.ofString "rows") = False := eq_false (by decide)
@[simp] theorem ne_beside_height : (Str.ofString "beside" = Str.ofString "height") = False := eq_false (by decide)
@[simp] theorem ne_beside_width : (Str.ofString "beside" = Str.ofString "width") = False := eq_false (by decide)
@[simp] theorem ne_scaled_rows : (Str.ofString "scaled" = Str.ofString "rows") = False := eq_false (by decide)
@[simp] theorem ne_scaled_height : (Str.ofString "scaled" = Str.ofString "height") = False := eq_false (by decide)
@[simp] theorem ne_scaled_width : (Str.ofString "scaled" = Str.ofString "width") = False := eq_false (by decide)
@[simp] theorem ne_transposed_rows : (Str.ofString "transposed" = Str.ofString "rows") = False := eq_false (by decide)
@[simp] theorem ne_transposed_height : (Str.ofString "transposed" = Str.ofString "height") = False := eq_false (by decide)
@[simp] theorem ne_transposed_width : (Str.ofString "transposed" = Str.ofString "width") = False := eq_false (by decide)
@[simp] theorem ne_part_rows : (Str.ofString "part" = Str.ofString "rows") = False := eq_false (by decide)
@[simp] theorem ne_part_height : (Str.ofString "part" = Str.ofString "height") = False := eq_false (by decide)
@[simp] theorem ne_part_width : (Str.ofString "part" = Str.ofString "width") = False := eq_false (by decide)
abbrev LR (h w : Nat) (f : Nat → Nat → Int) : D := .lst ((List.range h).map fun i => .lst (tR w (f i)))
theorem LR_congr {h w : Nat} {f g : Nat → Nat → Int} (e : ∀ i j, i < h → j < w → f i j = g i j) : LR h w f = LR h w g := by
  refine congrArg D.lst (List.map_congr_left fun i hi => congrArg D.lst (List.map_congr_left fun j hj => ?_))
  rw [e i j (List.mem_range.mp hi) (List.mem_range.mp hj)]
theorem okDs_map {l : List Nat} {g : Nat → D} {n : Nat} (h : ∀ i, okD (g i) n = true) : okDs (l.map g) n = true := by
  induction l with
  | nil => rfl
  | cons a l ih => simp [ih, h]
theorem okD_LR (h w : Nat) (f : Nat → Nat → Int) : okD (LR h w f) 8 = true := okDs_map (n := 7) fun i => okDs_map (n := 6) fun j => rfl
theorem okD_MD (h w : Nat) (f : Nat → Nat → Int) : okD (.tup (mD h w f)) 8 = true := okDs_map (n := 7) fun i => okDs_map (n := 6) fun j => rfl
theorem eqDs_map {l : List Nat} {g k : Nat → D} : eqDs (l.map g) (l.map k) = l.all fun i => eqD (g i) (k i) := by
  induction l with
  | nil => rfl
  | cons a l ih => simp [ih]
theorem eqDs_refl {l : List Nat} {g : Nat → D} (h : ∀ i, eqD (g i) (g i) = true) : eqDs (l.map g) (l.map g) = true := by
  rw [eqDs_map]
  simp [h]
theorem eqD_MD (h w : Nat) (f : Nat → Nat → Int) : eqD (.tup (mD h w f)) (.tup (mD h w f)) = true := eqDs_refl fun i => eqDs_refl (l := List.range w) fun j => by simp
theorem eqD_LR (h w : Nat) (f : Nat → Nat → Int) : eqD (LR h w f) (LR h w f) = true := eqDs_refl fun i => eqDs_refl (l := List.range w) fun j => by simp
theorem eq_both (h w : Nat) (f g : Nat → Nat → Int) : eqD (.tup (mD h w f)) (.tup (mD h w g)) = eqD (LR h w f) (LR h w g) := by
  show eqDs _ _ = eqDs _ _
  rw [eqDs_map, eqDs_map]
  rfl
theorem ge2 {neg : Bool} {a b : D} (h0 : eqS a b = none) (ha : okD a 8 = true) (hb : okD b 8 = true) : gEq2 neg a b = some (.fz (.bl (if neg then !eqD a b else eqD a b))) := by
  unfold gEq2
  rw [h0]
  show gEqD neg a b = _
  unfold gEqD
  rw [if_pos ⟨ha, hb⟩]
theorem meq_eq {h w : Nat} {f g : Nat → Nat → Int} : m_Matrix___eq__ [.fz (mOb h w f), .fz (mOb h w g)] = .ok (.fz (.bl (eqD (LR h w f) (LR h w g)))) [] := by
  have e := ge2 (neg := false) (a := .tup (mD h w f)) (b := .tup (mD h w g)) rfl (okD_MD h w f) (okD_MD h w g)
  rw [eq_both] at e
  simp [-gEq2, m_Matrix___eq__, b_Matrix___eq__, e]
theorem meq_lst {h w : Nat} {f : Nat → Nat → Int} {ds : List D} : m_Matrix___eq__ [.fz (mOb h w f), .fz (.lst ds)] = .ok (.fz (.bl false)) [] := by
  simp [-gEq2, m_Matrix___eq__, b_Matrix___eq__]
theorem is_eq {h w : Nat} {f : Nat → Nat → Int} (hh : 0 < h) (bh : h < 2 ^ 20) (bw : w < 2 ^ 20) : m__law_is [.fz (mOb h w f), .fz (LR h w f)] = .ok (.fz (.bl true)) [] := by
  have l := lc_tab (set := sName 2) (elt := b__law_is_e0) (vs := [2]) (n := h) (dk := fun i => .lst (tR w (f i))) (g := fun i => .fz (.tup (tR w (f i)))) (env := [some (.fz (mOb h w f)), some (.fz (LR h w f)), none]) bh (fun i hi => by simp [LcOk, b__law_is_e0])
  have e := ge2 (neg := true) (a := .tup (mD h w f)) (b := .tup (mD h w f)) rfl (okD_MD h w f) (okD_MD h w f)
  rw [eqD_MD] at e
  have a0 := atI_range (n := h) (g := fun i => D.lst (tR w (f i))) hh
  simp only [Int.natCast_zero] at a0
  have mi := mk_init (h := h) (w := w) (f := f) hh bh
  have me := meq_eq (h := h) (w := w) (f := f) (g := f)
  rw [eqD_LR] at me
  have hn : ∀ (n : Nat), gEq2 true (.int (n : Int)) (.int (n : Int)) = some (.fz (.bl false)) := fun n => by simp
  simp [-gEq2, m__law_is, b__law_is, l, e, a0, mi, me, hn]
/-- a matrix of the law -/
structure Mx (h w : Nat) (f : Nat → Nat → Int) : Prop where
  h0 : 0 < h
  h5 : h < 5
  w0 : 0 < w
  w5 : w < 5
  bd : ∀ i c, Bd 101 (f i c)
theorem Mx.sz {h w : Nat} {f : Nat → Nat → Int} (m : Mx h w f) (i j : Nat) : sz (f i j) < 100000000 := Nat.lt_of_le_of_lt (sz_le (m.bd i j)) (by decide)
theorem made_ex {h w j : Nat} {t : T} (hp : IsPool j t) (hj : j < 2 ^ 50) (hh : 0 < h) (hw : 0 < w) (bh : h < 100) (bw : w < 100) :
    ∃ (f : Nat → Nat → Int) (t' : T), (∀ i c, Bd 101 (f i c)) ∧ m__law_made [t, .fz (.int (h : Int)), .fz (.int (w : Int))] = .ok (mTr h w f) [t'] := by
  obtain ⟨f, t1, ab, q1, e1⟩ := law_matrix_ex (h := h) (w := w) hp hj hh hw bh bw
  obtain ⟨a, t2, a0, a1, q2, e2⟩ := take_call (l := 5) q1 (by decide) (by decide) (by omega)
  have bf : ∀ i c, Bd 101 (f i c) := fun i c => (ab i c).bd (by decide)
  by_cases h1 : a = 1
  · subst h1
    obtain ⟨b, t3, b0, b1, q3, e3⟩ := take_call (l := 1000000000000000000000000000000) q2 (by decide) (by decide) (by omega)
    have i1 := ixN_nat (n := h) (i := 0) hh
    have i2 := ixN_nat (n := w) (i := 0) hw
    simp only [Int.natCast_zero] at i1 i2
    have pt := put_tab (h := h) (w := w) (i := 0) (j := 0) (f := f) (v := b - 100000000000000000000000000000) hh hw
    have gi : ((List.range h).map fun i' => T.lst ((List.range w).map fun j => .fz (.int (f i' j))))[0]? = some (T.lst ((List.range w).map fun j => .fz (.int (f 0 j)))) := by
      rw [List.getElem?_map, List.getElem?_range hh]; rfl
    refine ⟨upF f 0 0 (b - 100000000000000000000000000000), t3, fun i c => ?_, ?_⟩
    · unfold upF
      split
      · unfold Bd
        have : (1000000000000000000000000000000 : Int) < 2 ^ 101 := by decide
        have : (100000000000000000000000000000 : Int) < 2 ^ 101 := by decide
        omega
      · exact bf i c
    · simp [m__law_made, b__law_made, e1, e2, e3, i1, i2, gi, powOk]
      exact T.lst.inj pt
  · refine ⟨f, t2, bf, ?_⟩
    simp [m__law_made, b__law_made, e1, e2, h1]
theorem pr_loop {h n w : Nat} {f g : Nat → Nat → Int} (hn : 0 < n) (bh : h < 100) (bn : n < 100) (bw : w < 100) (hm : ∀ i j k, mulOk (f i k) (g k j) = true) :
    m__law_product [.fz (LR h n f), .fz (LR n w g)] = .ok (.fz (LR h w fun i j => dotN n (f i) fun k => g k j)) [] := by
  have sz : ∀ {a : Nat}, a < 200 → a < sizeLine := fun h => Nat.lt_of_lt_of_le h (by decide)
  have l0 : ∀ (O : Option T) (i j : Nat), j < w → loopC (sName 5) fYes b__law_product_e0 [5] ((List.range n).map fun (k : Nat) => .int (k : Int)) [] [some (.fz (LR h n f)), some (.fz (LR n w g)), O, some (.fz (.lst (tR n (f i)))), some (.fz (.int (j : Int))), none]
      = .ok ((List.range n).map fun k => .fz (.int (f i k * g k j))) [some (.fz (LR h n f)), some (.fz (LR n w g)), O, some (.fz (.lst (tR n (f i)))), some (.fz (.int (j : Int))), none] := fun O i j hj =>
    lc_tab (by omega) fun k hk => by
      have g1 := atI_range (n := n) (g := fun k => D.int (f i k)) hk
      have g2 := atI_range (n := n) (g := fun k => D.lst (tR w (g k))) hk
      have g3 := atI_range (n := w) (g := fun j => D.int (g k j)) hj
      simp [LcOk, b__law_product_e0, g1, g2, g3, hm]
  have a0 := atI_range (n := n) (g := fun k => D.lst (tR w (g k))) hn
  simp only [Int.natCast_zero] at a0
  -- one row
  have row : ∀ (i : Nat) (O4 : Option T) (done : List T), done.length < 150 → ∃ O4', b__law_product_f1 [some (.fz (LR h n f)), some (.fz (LR n w g)), some (.lst done), some (.fz (.lst (tR n (f i)))), O4, none]
      = .nx [some (.fz (LR h n f)), some (.fz (LR n w g)), some (.lst (done ++ [.lst ((List.range w).map fun j => .fz (.int (dotN n (f i) fun k => g k j)))])), some (.fz (.lst (tR n (f i)))), O4', none] := by
    intro i O4 done hd
    have lf := lf_tab (set := sName 4) (b := b__law_product_f0) (n := w) (dk := fun j => .int (j : Int))
      (fun j => [some (.fz (LR h n f)), some (.fz (LR n w g)), some (.lst (done ++ [.lst ((List.range j).map fun j => .fz (.int (dotN n (f i) fun k => g k j)))])), some (.fz (.lst (tR n (f i)))), (if j = 0 then O4 else some (.fz (.int ((j - 1 : Nat) : Int)))), none])
      (fun j hj => by
        have ix : ixN (done.length + 1) (-1) = some done.length := by
          have := ixN_neg1 (n := done.length + 1) (by omega)
          simpa using this
        have sj := sz (a := j) (by omega)
        simp [LfOk, b__law_product_f0, ix, rg1 (n := n) (by omega), l0 _ i j hj, ints_tab, sj, List.range_succ, dotN])
    have sd := sz (a := done.length) (by omega)
    simp only [List.range_zero, List.map_nil, if_true] at lf
    refine ⟨_, Eq.trans ?_ lf⟩
    simp [b__law_product_f1, sd, a0, rg1 (n := w) (by omega)]
  have gen : ∀ (m i : Nat) (O3 O4 : Option T), i + m = h → ∃ e3 e4, loopF (sName 3) b__law_product_f1 ((List.range' i m).map fun i => .lst (tR n (f i))) [some (.fz (LR h n f)), some (.fz (LR n w g)), some (.lst ((List.range i).map fun i => .lst ((List.range w).map fun j => .fz (.int (dotN n (f i) fun k => g k j))))), O3, O4, none]
      = .nx [some (.fz (LR h n f)), some (.fz (LR n w g)), some (.lst ((List.range h).map fun i => .lst ((List.range w).map fun j => .fz (.int (dotN n (f i) fun k => g k j))))), e3, e4, none] := by
    intro m
    induction m with
    | zero =>
      intro i O3 O4 hi
      have : i = h := by omega
      subst this
      exact ⟨O3, O4, rfl⟩
    | succ m ih =>
      intro i O3 O4 hi
      obtain ⟨O4', e⟩ := row i O4 ((List.range i).map fun i => .lst ((List.range w).map fun j => .fz (.int (dotN n (f i) fun k => g k j)))) (by simp; omega)
      obtain ⟨e3, e4, r⟩ := ih (i + 1) (some (.fz (.lst (tR n (f i))))) O4' (by omega)
      refine ⟨e3, e4, ?_⟩
      rw [List.range'_succ, List.map_cons]
      rw [List.range_succ, List.map_append] at r
      rw [loopF_go (e := [some (.fz (LR h n f)), some (.fz (LR n w g)), some (.lst ((List.range i).map fun i => .lst ((List.range w).map fun j => .fz (.int (dotN n (f i) fun k => g k j))))), some (.fz (.lst (tR n (f i)))), O4, none]) (by rfl) e]
      exact r
  obtain ⟨e3, e4, r⟩ := gen h 0 none none (by omega)
  rw [← List.range_eq_range'] at r
  simp only [List.range_zero, List.map_nil] at r
  simp [m__law_product, b__law_product, r, frzs_range]
theorem pairs_ok {h w : Nat} {f g : Nat → Nat → Int} (m : Mx h w f) (m' : Mx h w g) : m__law_pairs_fit [.fz (mOb h w f), .fz (mOb h w g), .fz (LR h w f), .fz (LR h w g)] = .ok (.fz (.bl true)) [] := by
  have := m.h5; have := m.w5
  have sz : ∀ {a : Nat}, a < 200 → a < sizeLine := fun h => Nat.lt_of_lt_of_le h (by decide)
  have l0 : ∀ (O4 O5 : Option T) (i : Nat), loopC (sTup (sCons (sName 7) (sCons (sName 8) sNil))) fYes b__law_pairs_fit_e0 [7, 8] ((List.range w).map fun j => .tup [.int (f i j), .int (g i j)]) [] [some (.fz (mOb h w f)), some (.fz (mOb h w g)), some (.fz (LR h w f)), some (.fz (LR h w g)), O4, O5, some (.fz (.int (i : Int))), none, none]
      = .ok ((List.range w).map fun j => .fz (.int (f i j + g i j))) [some (.fz (mOb h w f)), some (.fz (mOb h w g)), some (.fz (LR h w f)), some (.fz (LR h w g)), O4, O5, some (.fz (.int (i : Int))), none, none] := fun O4 O5 i =>
    lc_tab (by omega) fun j hj => by simp [LcOk, b__law_pairs_fit_e0]
  have l1 : ∀ (O4 O5 : Option T) (i : Nat), loopC (sTup (sCons (sName 7) (sCons (sName 8) sNil))) fYes b__law_pairs_fit_e1 [7, 8] ((List.range w).map fun j => .tup [.int (f i j), .int (g i j)]) [] [some (.fz (mOb h w f)), some (.fz (mOb h w g)), some (.fz (LR h w f)), some (.fz (LR h w g)), O4, O5, some (.fz (.int (i : Int))), none, none]
      = .ok ((List.range w).map fun j => .fz (.int (f i j - g i j))) [some (.fz (mOb h w f)), some (.fz (mOb h w g)), some (.fz (LR h w f)), some (.fz (LR h w g)), O4, O5, some (.fz (.int (i : Int))), none, none] := fun O4 O5 i =>
    lc_tab (by omega) fun j hj => by simp [LcOk, b__law_pairs_fit_e1]
  have lf := lf_tab (set := sName 6) (b := b__law_pairs_fit_f0) (n := h) (dk := fun i => .int (i : Int))
    (fun i => [some (.fz (mOb h w f)), some (.fz (mOb h w g)), some (.fz (LR h w f)), some (.fz (LR h w g)), some (mTr i w fun i j => f i j + g i j), some (mTr i w fun i j => f i j - g i j), (if i = 0 then none else some (.fz (.int ((i - 1 : Nat) : Int)))), none, none])
    (fun i hi => by
      have g1 := atI_range (n := h) (g := fun k => D.lst (tR w (f k))) hi
      have g2 := atI_range (n := h) (g := fun k => D.lst (tR w (g k))) hi
      have sj := sz (a := i) (by omega)
      simp [LfOk, b__law_pairs_fit_f0, g1, g2, pair_tab, l0, l1, sj, List.range_succ])
  have hz : h ≠ 0 := by have := m.h0; omega
  simp only [if_true, hz, if_false] at lf
  have z : mTr 0 w (fun i j => f i j + g i j) = .lst [] := rfl
  have z' : mTr 0 w (fun i j => f i j - g i j) = .lst [] := rfl
  rw [z, z'] at lf
  have l2 : ∀ (O4 O5 : Option T), loopC (sName 6) fYes b__law_pairs_fit_e2 [6] ((List.range h).map fun (i : Nat) => .int (i : Int)) [] [some (.fz (mOb h w f)), some (.fz (mOb h w g)), some (.fz (LR h w f)), some (.fz (LR h w g)), O4, O5, none, none, none]
      = .ok ((List.range h).map fun i => .lst ((List.range (w + w)).map fun j => .fz (.int (besF w f g i j)))) [some (.fz (mOb h w f)), some (.fz (mOb h w g)), some (.fz (LR h w f)), some (.fz (LR h w g)), O4, O5, none, none, none] := fun O4 O5 =>
    lc_tab (by omega) fun i hi => by
      have g1 := atI_range (n := h) (g := fun k => D.lst (tR w (f k))) hi
      have g2 := atI_range (n := h) (g := fun k => D.lst (tR w (g k))) hi
      have ap := app_tab w w (fun j => D.int (f i j)) (fun j => D.int (g i j))
      have e : (fun j => if j < w then D.int (f i j) else D.int (g i (j - w))) = fun j => D.int (besF w f g i j) := by
        funext j
        unfold besF
        split <;> rfl
      rw [e] at ap
      have hl : w + w ≤ sizeLine := Nat.le_of_lt (sz (by omega))
      simp [LcOk, b__law_pairs_fit_e2, g1, g2, ap, hl]
  have a1 := madd_eq (h := h) (w := w) (f := f) (g := g) m.h0 (by omega) (by omega) m'.sz
  have a2 := msub_eq (h := h) (w := w) (f := f) (g := g) m.h0 (by omega) (by omega) m'.sz
  have a3 := beside_eq (h := h) (w := w) (w' := w) (f := f) (g := g) m.h0 (by omega) (by omega) (by omega)
  have b1 := is_eq (h := h) (w := w) (f := fun i j => f i j + g i j) m.h0 (by omega) (by omega)
  have b2 := is_eq (h := h) (w := w) (f := fun i j => f i j - g i j) m.h0 (by omega) (by omega)
  have b3 := is_eq (h := h) (w := w + w) (f := besF w f g) m.h0 (by omega) (by omega)
  have s1 : fFor (iArgs range1D (fCons (fCB (g1 gLen) (fCons (fVar 2) (fNil))) (fNil))) (sName 6) b__law_pairs_fit_f0 [some (.fz (mOb h w f)), some (.fz (mOb h w g)), some (.fz (LR h w f)), some (.fz (LR h w g)), some (.lst []), some (.lst []), none, none, none] = .nx [some (.fz (mOb h w f)), some (.fz (mOb h w g)), some (.fz (LR h w f)), some (.fz (LR h w g)), some (mTr h w fun i j => f i j + g i j), some (mTr h w fun i j => f i j - g i j), some (.fz (.int ((h - 1 : Nat) : Int))), none, none] := by
    rw [← lf]
    simp [rg1 (n := h) (by omega)]
  have st : m__law_pairs_fit [.fz (mOb h w f), .fz (mOb h w g), .fz (LR h w f), .fz (LR h w g)] = finF [] (b__law_pairs_fit [some (.fz (mOb h w f)), some (.fz (mOb h w g)), some (.fz (LR h w f)), some (.fz (LR h w g)), none, none, none, none, none]) := rfl
  have s2 : fIfS (fRoT (fOr (fNot (fTest (fCall m__law_is [] [none, none] (fCons (fBin2 (gO 22 m_Matrix___add__) (fVar 0) (fVar 1)) (fCons (fVar 4) (fNil)))))) (fNot (fTest (fCall m__law_is [] [none, none] (fCons (fBin2 (gO 22 m_Matrix___sub__) (fVar 0) (fVar 1)) (fCons (fVar 5) (fNil)))))))) (fRet (fC (.bl false))) (fNext) [some (.fz (mOb h w f)), some (.fz (mOb h w g)), some (.fz (LR h w f)), some (.fz (LR h w g)), some (mTr h w fun i j => f i j + g i j), some (mTr h w fun i j => f i j - g i j), some (.fz (.int ((h - 1 : Nat) : Int))), none, none] = .nx [some (.fz (mOb h w f)), some (.fz (mOb h w g)), some (.fz (LR h w f)), some (.fz (LR h w g)), some (mTr h w fun i j => f i j + g i j), some (mTr h w fun i j => f i j - g i j), some (.fz (.int ((h - 1 : Nat) : Int))), none, none] := by
    simp [a1, a2, b1, b2, frzs_range]
  rw [st]
  unfold b__law_pairs_fit
  rw [seq_nx (e := [some (.fz (mOb h w f)), some (.fz (mOb h w g)), some (.fz (LR h w f)), some (.fz (LR h w g)), some (.lst []), none, none, none, none]) (by simp), seq_nx (e := [some (.fz (mOb h w f)), some (.fz (mOb h w g)), some (.fz (LR h w f)), some (.fz (LR h w g)), some (.lst []), some (.lst []), none, none, none]) (by simp), seq_nx s1, seq_nx s2]
  simp [-Int.natCast_add, methS, a3, rg1 (n := h) (by omega), l2, frzs_range, b3]
theorem turned_ok {h w : Nat} {f : Nat → Nat → Int} {c : Int} (m : Mx h w f) (hc : Bd 10 c) : m__law_turned_fit [.fz (mOb h w f), .fz (LR h w f), .fz (.int c)] = .ok (.fz (.bl true)) [] := by
  have := m.h5; have := m.w5
  have hm : ∀ i j, mulOk c (f i j) = true := fun i j => Bd.mulOk hc (m.bd i j) (by decide)
  have l0 : ∀ (i : Nat), loopC (sName 5) fYes b__law_turned_fit_e0 [5] (tR w (f i)) [] [some (.fz (mOb h w f)), some (.fz (LR h w f)), some (.fz (.int c)), some (.fz (.int (w : Int))), some (.fz (.lst (tR w (f i)))), none, none]
      = .ok ((List.range w).map fun j => .fz (.int (- f i j))) [some (.fz (mOb h w f)), some (.fz (LR h w f)), some (.fz (.int c)), some (.fz (.int (w : Int))), some (.fz (.lst (tR w (f i)))), none, none] := fun i =>
    lc_tab (by omega) fun j hj => by simp [LcOk, b__law_turned_fit_e0]
  have l1 : loopC (sName 4) fYes b__law_turned_fit_e1 [4] ((List.range h).map fun i => .lst (tR w (f i))) [] [some (.fz (mOb h w f)), some (.fz (LR h w f)), some (.fz (.int c)), some (.fz (.int (w : Int))), none, none, none]
      = .ok ((List.range h).map fun i => .lst ((List.range w).map fun j => .fz (.int (- f i j)))) [some (.fz (mOb h w f)), some (.fz (LR h w f)), some (.fz (.int c)), some (.fz (.int (w : Int))), none, none, none] :=
    lc_tab (by omega) fun i hi => by simp [LcOk, b__law_turned_fit_e1, l0]
  have k0 : ∀ (i : Nat), loopC (sName 5) fYes b__law_turned_fit_e2 [5] (tR w (f i)) [] [some (.fz (mOb h w f)), some (.fz (LR h w f)), some (.fz (.int c)), some (.fz (.int (w : Int))), some (.fz (.lst (tR w (f i)))), none, none]
      = .ok ((List.range w).map fun j => .fz (.int (c * f i j))) [some (.fz (mOb h w f)), some (.fz (LR h w f)), some (.fz (.int c)), some (.fz (.int (w : Int))), some (.fz (.lst (tR w (f i)))), none, none] := fun i =>
    lc_tab (by omega) fun j hj => by simp [LcOk, b__law_turned_fit_e2, hm]
  have k1 : loopC (sName 4) fYes b__law_turned_fit_e3 [4] ((List.range h).map fun i => .lst (tR w (f i))) [] [some (.fz (mOb h w f)), some (.fz (LR h w f)), some (.fz (.int c)), some (.fz (.int (w : Int))), none, none, none]
      = .ok ((List.range h).map fun i => .lst ((List.range w).map fun j => .fz (.int (c * f i j)))) [some (.fz (mOb h w f)), some (.fz (LR h w f)), some (.fz (.int c)), some (.fz (.int (w : Int))), none, none, none] :=
    lc_tab (by omega) fun i hi => by simp [LcOk, b__law_turned_fit_e3, k0]
  have r0 : ∀ (j : Nat), j < w → loopC (sName 4) fYes b__law_turned_fit_e4 [4] ((List.range h).map fun i => .lst (tR w (f i))) [] [some (.fz (mOb h w f)), some (.fz (LR h w f)), some (.fz (.int c)), some (.fz (.int (w : Int))), none, none, some (.fz (.int (j : Int)))]
      = .ok ((List.range h).map fun i => .fz (.int (f i j))) [some (.fz (mOb h w f)), some (.fz (LR h w f)), some (.fz (.int c)), some (.fz (.int (w : Int))), none, none, some (.fz (.int (j : Int)))] := fun j hj =>
    lc_tab (by omega) fun i hi => by
      have g1 := atI_range (n := w) (g := fun j => D.int (f i j)) hj
      simp [LcOk, b__law_turned_fit_e4, g1]
  have r1 : loopC (sName 6) fYes b__law_turned_fit_e5 [6] ((List.range w).map fun (j : Nat) => .int (j : Int)) [] [some (.fz (mOb h w f)), some (.fz (LR h w f)), some (.fz (.int c)), some (.fz (.int (w : Int))), none, none, none]
      = .ok ((List.range w).map fun j => .lst ((List.range h).map fun i => .fz (.int (f i j)))) [some (.fz (mOb h w f)), some (.fz (LR h w f)), some (.fz (.int c)), some (.fz (.int (w : Int))), none, none, none] :=
    lc_tab (by omega) fun j hj => by simp [LcOk, b__law_turned_fit_e5, r0 j hj]
  have a0 := atI_range (n := h) (g := fun i => D.lst (tR w (f i))) m.h0
  simp only [Int.natCast_zero] at a0
  have a1 := mneg_eq (h := h) (w := w) (f := f) m.h0 (by omega) (by omega)
  have a2 := mscaled_eq (h := h) (w := w) (f := f) (c := c) m.h0 (by omega) (by omega) hm
  have a3 := mtrans_eq (h := h) (w := w) (f := f) m.w0 (by omega) (by omega)
  have b1 := is_eq (h := h) (w := w) (f := fun i j => - f i j) m.h0 (by omega) (by omega)
  have b2 := is_eq (h := h) (w := w) (f := fun i j => c * f i j) m.h0 (by omega) (by omega)
  have b3 := is_eq (h := w) (w := h) (f := fun i j => f j i) m.w0 (by omega) (by omega)
  have st : m__law_turned_fit [.fz (mOb h w f), .fz (LR h w f), .fz (.int c)] = finF [] (b__law_turned_fit [some (.fz (mOb h w f)), some (.fz (LR h w f)), some (.fz (.int c)), none, none, none, none]) := rfl
  rw [st]
  unfold b__law_turned_fit
  rw [seq_nx (e := [some (.fz (mOb h w f)), some (.fz (LR h w f)), some (.fz (.int c)), some (.fz (.int (w : Int))), none, none, none]) (by simp [a0]),
    seq_nx (e := [some (.fz (mOb h w f)), some (.fz (LR h w f)), some (.fz (.int c)), some (.fz (.int (w : Int))), none, none, none]) (by simp [a1, l1, frzs_range, b1]),
    seq_nx (e := [some (.fz (mOb h w f)), some (.fz (LR h w f)), some (.fz (.int c)), some (.fz (.int (w : Int))), none, none, none]) (by simp [methS, a2, k1, frzs_range, b2])]
  simp [methS, a3, rg1 (n := w) (by omega), r1, frzs_range, b3]
theorem parts_ok {h w q : Nat} {t : T} {f : Nat → Nat → Int} {c : Int} (m : Mx h w f) (hp : IsPool q t) (hq : q < 2 ^ 50) : ∃ t', IsPool (q + 10) t' ∧ m__law_parts_fit [t, .fz (mOb h w f), .fz (LR h w f), .fz (.int c)] = .ok (.fz (.bl true)) [t'] := by
  have := m.h5; have := m.w5; have h0 := m.h0; have w0 := m.w0
  obtain ⟨a, t1, a0, a1, q1, e1⟩ := take_call (l := 3) hp (by decide) (by decide) (by omega)
  obtain ⟨a, rfl⟩ : ∃ n : Nat, a = n := ⟨a.toNat, by omega⟩
  obtain ⟨g, t2, l0, p1, p2, p3⟩ := lc_ex (set := sName 9) (elt := b__law_parts_fit_e0) (vs := [9]) (n := 1 + a) (dk := fun (k : Nat) => .int (k : Int)) (E := fun t : T => [some t, some (.fz (mOb h w f)), some (.fz (LR h w f)), some (.fz (.int c)), some (.fz (.int (h : Int))), some (.fz (.int (w : Int))), none, none, none, none, none, none])
    (G := fun x : Nat => .fz (.int (x : Int))) (P := fun x => x < h) (Inv := fun k t => IsPool (q + 1 + k) t) (by omega) 0 (fun k s hk hI => by
      obtain ⟨r, s', r0, r1, r2, r3⟩ := take_call (l := (h : Int)) hI (by omega) (by omega) (by omega)
      obtain ⟨r, rfl⟩ : ∃ n : Nat, r = n := ⟨r.toNat, by omega⟩
      refine ⟨r, s', ?_, by omega, r2⟩
      simp [LcOkE, b__law_parts_fit_e0, r3]) t1 q1
  obtain ⟨b, t3, b0, b1, q3, e3⟩ := take_call (l := (w : Int)) p3 (by omega) (by omega) (by omega)
  obtain ⟨b, rfl⟩ : ∃ n : Nat, b = n := ⟨b.toNat, by omega⟩
  refine ⟨t3, q3.up (by omega), ?_⟩
  let cc : Nat → Nat := fun j => if j = 0 then b else 0
  obtain ⟨two, h2⟩ : ∃ n : Nat, n = 2 := ⟨2, rfl⟩
  have hcc : ∀ j, j < two → cc j < w := fun j _ => by show (if j = 0 then b else 0) < w; split <;> omega
  have tcc : tR two (fun j => (cc j : Int)) = [.int (b : Int), .int 0] := by rw [h2]; rfl
  have pe := mpart_eq (h := h) (w := w) (p := 1 + a) (q := two) (f := f) (r := g) (c := cc) (by omega) (by omega) (by omega) (fun i hi => p1 i hi) hcc
  rw [tcc] at pe
  have b1' := is_eq (h := 1 + a) (w := two) (f := fun i j => f (g i) (cc j)) (by omega) (by omega) (by omega)
  -- the law's own part
  have k0 : ∀ (O6 O8 O9 : Option T) (i : Nat), i < 1 + a → loopC (sName 11) fYes b__law_parts_fit_e1 [11] [.int (b : Int), .int 0] [] [some t3, some (.fz (mOb h w f)), some (.fz (LR h w f)), some (.fz (.int c)), some (.fz (.int (h : Int))), some (.fz (.int (w : Int))), O6, some (.fz (.lst [.int (b : Int), .int 0])), O8, O9, some (.fz (.int (g i : Int))), none]
      = .ok ((List.range two).map fun j => .fz (.int (f (g i) (cc j)))) [some t3, some (.fz (mOb h w f)), some (.fz (LR h w f)), some (.fz (.int c)), some (.fz (.int (h : Int))), some (.fz (.int (w : Int))), O6, some (.fz (.lst [.int (b : Int), .int 0])), O8, O9, some (.fz (.int (g i : Int))), none] := fun O6 O8 O9 i hi => by
    rw [← tcc]
    exact lc_tab (by omega) fun j hj => by
      have g1 := atI_range (n := h) (g := fun i => D.lst (tR w (f i))) (p1 i hi)
      have g2 := atI_range (n := w) (g := fun j => D.int (f (g i) j)) (hcc j hj)
      simp [LcOk, b__law_parts_fit_e1, g1, g2]
  have k1 : loopC (sName 10) fYes b__law_parts_fit_e2 [10] (tR (1 + a) fun i => (g i : Int)) [] [some t3, some (.fz (mOb h w f)), some (.fz (LR h w f)), some (.fz (.int c)), some (.fz (.int (h : Int))), some (.fz (.int (w : Int))), some (.fz (.lst (tR (1 + a) fun i => (g i : Int)))), some (.fz (.lst [.int (b : Int), .int 0])), none, none, none, none]
      = .ok ((List.range (1 + a)).map fun i => .lst ((List.range two).map fun j => .fz (.int (f (g i) (cc j))))) [some t3, some (.fz (mOb h w f)), some (.fz (LR h w f)), some (.fz (.int c)), some (.fz (.int (h : Int))), some (.fz (.int (w : Int))), some (.fz (.lst (tR (1 + a) fun i => (g i : Int)))), some (.fz (.lst [.int (b : Int), .int 0])), none, none, none, none] :=
    lc_tab (by omega) fun i hi => by simp [LcOk, b__law_parts_fit_e2, k0 _ _ _ i hi]
  -- the unit
  have u1 := munit_eq (n := w) w0 (by omega)
  have b2' := is_eq (h := w) (w := w) (f := dgF w fun _ => 1) w0 (by omega) (by omega)
  have r0 : ∀ (O6 O7 : Option T) (i : Nat), loopC (sName 11) fYes b__law_parts_fit_e3 [11] ((List.range w).map fun (j : Nat) => .int (j : Int)) [] [some t3, some (.fz (mOb h w f)), some (.fz (LR h w f)), some (.fz (.int c)), some (.fz (.int (h : Int))), some (.fz (.int (w : Int))), O6, O7, none, none, some (.fz (.int (i : Int))), none]
      = .ok ((List.range w).map fun j => .fz (.int (if i = j then 1 else 0))) [some t3, some (.fz (mOb h w f)), some (.fz (LR h w f)), some (.fz (.int c)), some (.fz (.int (h : Int))), some (.fz (.int (w : Int))), O6, O7, none, none, some (.fz (.int (i : Int))), none] := fun O6 O7 i =>
    lc_tab (by omega) fun j hj => by
      have : ((i : Int) = j) ↔ i = j := by omega
      by_cases e : i = j <;> simp [LcOk, b__law_parts_fit_e3, this, e]
  have r1 : ∀ (O6 O7 : Option T), loopC (sName 10) fYes b__law_parts_fit_e4 [10] ((List.range w).map fun (j : Nat) => .int (j : Int)) [] [some t3, some (.fz (mOb h w f)), some (.fz (LR h w f)), some (.fz (.int c)), some (.fz (.int (h : Int))), some (.fz (.int (w : Int))), O6, O7, none, none, none, none]
      = .ok ((List.range w).map fun i => .lst ((List.range w).map fun j => .fz (.int (if i = j then 1 else 0)))) [some t3, some (.fz (mOb h w f)), some (.fz (LR h w f)), some (.fz (.int c)), some (.fz (.int (h : Int))), some (.fz (.int (w : Int))), O6, O7, none, none, none, none] := fun O6 O7 =>
    lc_tab (by omega) fun i hi => by simp [LcOk, b__law_parts_fit_e4, rg1 (n := w) (by omega), r0]
  have cg : LR w w (fun i j => if i = j then 1 else 0) = LR w w (dgF w fun _ => 1) := LR_congr fun i j hi hj => by
    unfold dgF
    by_cases e : i = j
    · rw [if_pos e, if_pos ⟨e, hi⟩]
    · rw [if_neg e, if_neg (by omega)]
  rw [← cg] at b2'
  -- the corner
  have rk : rgOk (w : Int) = true := rgOk_of (by omega)
  have hl : w ≤ sizeLine := Nat.le_trans (show w ≤ 13 by omega) (by decide)
  have d0 : ∀ (O6 O7 : Option T), loopC (sName 10) fYes b__law_parts_fit_e5 [10] ((List.range h).map fun (j : Nat) => .int (j : Int)) [] [some t3, some (.fz (mOb h w f)), some (.fz (LR h w f)), some (.fz (.int c)), some (.fz (.int (h : Int))), some (.fz (.int (w : Int))), O6, O7, none, none, none, none]
      = .ok ((List.range h).map fun j => .lst ((List.range w).map fun i => .fz (.int 0))) [some t3, some (.fz (mOb h w f)), some (.fz (LR h w f)), some (.fz (.int c)), some (.fz (.int (h : Int))), some (.fz (.int (w : Int))), O6, O7, none, none, none, none] := fun O6 O7 =>
    lc_tab (by omega) fun j hj => by
      simp [-repT, LcOk, b__law_parts_fit_e5, rk, hl, rep_tab]
  have dg := mdiag_eq (m := 1) (h := h) (w := w) (v := fun _ => c) h0 (by omega) (by omega) (by omega) (by omega)
  have b3' := is_eq (h := h) (w := w) (f := dgF 1 fun _ => c) h0 (by omega) (by omega)
  have cg2 : LR h w (upF (fun _ _ => 0) 0 0 c) = LR h w (dgF 1 fun _ => c) := LR_congr fun i j hi hj => by
    unfold dgF upF
    by_cases e : i = 0 ∧ j = 0
    · rw [if_pos e, if_pos (by omega)]
    · rw [if_neg e, if_neg (by omega)]
  rw [← cg2] at b3'
  have i1 := ixN_nat (n := h) (i := 0) h0
  have i2 := ixN_nat (n := w) (i := 0) w0
  simp only [Int.natCast_zero] at i1 i2
  have pt := put_tab (h := h) (w := w) (i := 0) (j := 0) (f := fun _ _ => 0) (v := c) h0 w0
  have gi : ((List.range h).map fun i' => T.lst ((List.range w).map fun j => .fz (.int 0)))[0]? = some (T.lst ((List.range w).map fun j => .fz (.int 0))) := by
    rw [List.getElem?_map, List.getElem?_range h0]; rfl
  have a0' := atI_range (n := h) (g := fun i => D.lst (tR w (f i))) h0
  simp only [Int.natCast_zero] at a0'
  have e1a : range1D [.int (1 + (a : Int))] = some ((List.range (1 + a)).map fun (k : Nat) => .int (k : Int)) := by
    have := rg1 (n := 1 + a) (by omega)
    have e : ((1 + a : Nat) : Int) = 1 + (a : Int) := by omega
    rw [e] at this
    exact this
  have st : m__law_parts_fit [t, .fz (mOb h w f), .fz (LR h w f), .fz (.int c)] = finF [0] (b__law_parts_fit [some t, some (.fz (mOb h w f)), some (.fz (LR h w f)), some (.fz (.int c)), none, none, none, none, none, none, none, none]) := rfl
  rw [st]
  unfold b__law_parts_fit
  rw [seq_nx (e := [some t, some (.fz (mOb h w f)), some (.fz (LR h w f)), some (.fz (.int c)), some (.fz (.int (h : Int))), none, none, none, none, none, none, none]) (by simp),
    seq_nx (e := [some t, some (.fz (mOb h w f)), some (.fz (LR h w f)), some (.fz (.int c)), some (.fz (.int (h : Int))), some (.fz (.int (w : Int))), none, none, none, none, none, none]) (by simp [a0']),
    seq_nx (e := [some t2, some (.fz (mOb h w f)), some (.fz (LR h w f)), some (.fz (.int c)), some (.fz (.int (h : Int))), some (.fz (.int (w : Int))), some (.lst ((List.range (1 + a)).map fun i => .fz (.int (g i : Int)))), none, none, none, none, none]) (by simp [e1, e1a, l0]),
    seq_nx (e := [some t3, some (.fz (mOb h w f)), some (.fz (LR h w f)), some (.fz (.int c)), some (.fz (.int (h : Int))), some (.fz (.int (w : Int))), some (.lst ((List.range (1 + a)).map fun i => .fz (.int (g i : Int)))), some (.lst [.fz (.int (b : Int)), .fz (.int 0)]), none, none, none, none]) (by simp [e3]),
    seq_nx (e := [some t3, some (.fz (mOb h w f)), some (.fz (LR h w f)), some (.fz (.int c)), some (.fz (.int (h : Int))), some (.fz (.int (w : Int))), some (.fz (.lst (tR (1 + a) fun i => (g i : Int)))), some (.fz (.lst [.int (b : Int), .int 0])), none, none, none, none]) (by simp [-Int.natCast_add, methS, pe, k1, frzs_range, b1']),
    seq_nx (e := [some t3, some (.fz (mOb h w f)), some (.fz (LR h w f)), some (.fz (.int c)), some (.fz (.int (h : Int))), some (.fz (.int (w : Int))), some (.fz (.lst (tR (1 + a) fun i => (g i : Int)))), some (.fz (.lst [.int (b : Int), .int 0])), none, none, none, none]) (by simp [u1, rg1 (n := w) (by omega), r1, frzs_range, b2']),
    seq_nx (e := [some t3, some (.fz (mOb h w f)), some (.fz (LR h w f)), some (.fz (.int c)), some (.fz (.int (h : Int))), some (.fz (.int (w : Int))), some (.fz (.lst (tR (1 + a) fun i => (g i : Int)))), some (.fz (.lst [.int (b : Int), .int 0])), some (mTr h w fun _ _ => 0), none, none, none]) (by simp [rg1 (n := h) (by omega), d0]),
    seq_nx (e := [some t3, some (.fz (mOb h w f)), some (.fz (LR h w f)), some (.fz (.int c)), some (.fz (.int (h : Int))), some (.fz (.int (w : Int))), some (.fz (.lst (tR (1 + a) fun i => (g i : Int)))), some (.fz (.lst [.int (b : Int), .int 0])), some (mTr h w (upF (fun _ _ => 0) 0 0 c)), none, none, none]) (by simp [i1, i2, gi]; exact T.lst.inj pt)]
  have tc : tR 1 (fun _ => c) = [.int c] := rfl
  rw [tc] at dg
  simp [frzE_cons, frzs_range, dg, b3']
def Rows0 (w : Nat) (f : Nat → Nat → Int) (h : Nat) : List D := .tup (tR w (f 0)) :: ((List.range h).map fun i => .lst (tR w (f i))).drop 1
theorem rows0_eq {h w : Nat} {f : Nat → Nat → Int} (hh : 0 < h) : Rows0 w f h = mK (fun i => decide (i = 0)) h w f := by
  obtain ⟨h, rfl⟩ : ∃ n, h = n + 1 := ⟨h - 1, by omega⟩
  unfold Rows0 mK
  rw [List.range_succ_eq_map]
  simp [rK]
theorem cut1 {n : Nat} {xs : List D} (hl : xs.length = n) (hn : 0 < n) : DL.cutD xs (some 1) none = xs.drop 1 := by
  unfold DL.cutD
  have e1 : HT.sIx xs.length 0 (some 1) = 1 := by
    rw [hl]
    obtain ⟨n, rfl⟩ : ∃ m, n = m + 1 := ⟨n - 1, by omega⟩
    simp [HT.sIx]
  have e2 : HT.sIx xs.length xs.length none = xs.length := by simp [HT.sIx]
  rw [e1, e2]
  apply List.take_of_length_le
  simp
theorem law_holds (ns : List Int) (_ : ns.length ≤ 63) (hw : Wide ns) : m_law [.fz (scr ns)] = .ok (.fz (.bl true)) [] := by
  obtain ⟨c0, hc0, bc0⟩ := cell_ex hw 0
  obtain ⟨c1, hc1, bc1⟩ := cell_ex hw 1
  obtain ⟨c2, hc2, bc2⟩ := cell_ex hw 2
  obtain ⟨c3, hc3, bc3⟩ := cell_ex hw 3
  obtain ⟨t0, e0, q0⟩ := pool_ex bc0
  obtain ⟨u1, p1, r1⟩ := pool_ex bc1
  obtain ⟨u2, p2, r2⟩ := pool_ex bc2
  obtain ⟨u3, p3, r3⟩ := pool_ex bc3
  obtain ⟨h, w, t1, h0, h5, w0, w5, q1, e1⟩ := law_shape_ex q0 (by decide)
  obtain ⟨dd, t2, d0, d1, q2, e2⟩ := take_call (l := 4) q1 (by decide) (by decide) (by decide)
  obtain ⟨d', rfl⟩ : ∃ n : Nat, dd = n := ⟨dd.toNat, by omega⟩
  have ed : (1 : Int) + (d' : Int) = ((1 + d' : Nat) : Int) := by omega
  generalize hdd : 1 + d' = d at ed
  have hd0 : 0 < d := by omega
  have hd5 : d < 5 := by omega
  obtain ⟨f, v1, bf, m1⟩ := made_ex (h := h) (w := w) r1 (by decide) h0 w0 (by omega) (by omega)
  obtain ⟨g, v2, bg, m2⟩ := made_ex (h := h) (w := w) r2 (by decide) h0 w0 (by omega) (by omega)
  obtain ⟨k, v3, bk, m3⟩ := made_ex (h := w) (w := d) r3 (by decide) w0 hd0 (by omega) (by omega)
  have mf : Mx h w f := ⟨h0, h5, w0, w5, bf⟩
  have mg : Mx h w g := ⟨h0, h5, w0, w5, bg⟩
  obtain ⟨n, t3, n0, n1, q3, e3⟩ := take_call (l := 41) q2 (by decide) (by decide) (by decide)
  obtain ⟨t4, q4, e4⟩ := parts_ok (c := n - 20) mf q3 (by decide)
  obtain ⟨a, t5, a0, a1, q5, e5⟩ := take_call (l := 3) q4 (by decide) (by decide) (by decide)
  obtain ⟨a', rfl⟩ : ∃ n : Nat, a = n := ⟨a.toNat, by omega⟩
  have i1 := mk_init (h := h) (w := w) (f := f) h0 (by omega)
  have i2 := minit_eq (d := .tup (mK (fun i => decide (i = 0)) h w g)) (k := fun i => decide (i = 0)) (h := h) (w := w) (f := g) (.inr rfl) h0 (by omega)
  have i3 := minit_eq (d := .lst (mK (fun _ => true) w d k)) (k := fun _ => true) (h := w) (w := d) (f := k) (.inl rfl) w0 (by omega)
  simp only [mK, rK, if_true] at i3
  have g0 := atI_range (n := h) (g := fun i => D.lst (tR w (g i))) h0
  have gf0 := atI_range (n := h) (g := fun i => D.lst (tR w (f i))) h0
  have gf1 := atI_range (n := w) (g := fun j => D.int (f 0 j)) w0
  simp only [Int.natCast_zero] at g0 gf0 gf1
  have l8 : loopC (sName 15) fYes b_law_e0 [15] ((List.range h).map fun i => .lst (tR w (f i))) [] [some (.fz (scr ns)), some t2, some (.fz (.int (h : Int))), some (.fz (.int (w : Int))), some (.fz (.int (d : Int))), some (.fz (LR h w f)), some (mTr h w g), some (mTr w d k), none, none, none, none, none, none, none, none]
      = .ok ((List.range h).map fun i => .lst ((List.range w).map fun j => .fz (.int (f i j)))) [some (.fz (scr ns)), some t2, some (.fz (.int (h : Int))), some (.fz (.int (w : Int))), some (.fz (.int (d : Int))), some (.fz (LR h w f)), some (mTr h w g), some (mTr w d k), none, none, none, none, none, none, none, none] :=
    lc_tab (by omega) fun i hi => by simp [LcOk, b_law_e0]
  have l11 : ∀ (O8 O9 O10 : Option T), loopC (sName 15) fYes b_law_e1 [15] ((List.range w).map fun i => .lst (tR d (k i))) [] [some (.fz (scr ns)), some t2, some (.fz (.int (h : Int))), some (.fz (.int (w : Int))), some (.fz (.int (d : Int))), some (.fz (LR h w f)), some (.fz (LR h w g)), some (.fz (LR w d k)), O8, O9, O10, none, none, none, none, none]
      = .ok ((List.range w).map fun i => .fz (.tup (tR d (k i)))) [some (.fz (scr ns)), some t2, some (.fz (.int (h : Int))), some (.fz (.int (w : Int))), some (.fz (.int (d : Int))), some (.fz (LR h w f)), some (.fz (LR h w g)), some (.fz (LR w d k)), O8, O9, O10, none, none, none, none, none] := fun O8 O9 O10 =>
    lc_tab (by omega) fun i hi => by simp [LcOk, b_law_e1]
  have hm : ∀ i j c, mulOk (f i c) (k c j) = true := fun i j c => Bd.mulOk (bf i c) (bk c j) (by decide)
  have mm := mmul_eq (h := h) (n := w) (w := d) (f := f) (g := k) h0 w0 (by omega) (by omega) (by omega) hm
  have pp := pr_loop (h := h) (n := w) (w := d) (f := f) (g := k) w0 (by omega) (by omega) (by omega) hm
  have im := is_eq (h := h) (w := d) (f := fun i j => dotN w (f i) fun c => k c j) h0 (by omega) (by omega)
  have pf := pairs_ok mf mg
  have tf := turned_ok (c := n - 20) mf (by unfold Bd; omega)
  have isf := is_eq (h := h) (w := w) (f := f) h0 (by omega) (by omega)
  have isg := is_eq (h := h) (w := w) (f := g) h0 (by omega) (by omega)
  have isk := is_eq (h := w) (w := d) (f := k) w0 (by omega) (by omega)
  have ml := meq_lst (h := h) (w := w) (f := f) (ds := (List.range h).map fun i => .lst (tR w (f i)))
  have me := meq_eq (h := h) (w := w) (f := f) (g := g)
  have gl := ge2 (neg := false) (a := LR h w f) (b := LR h w g) rfl (okD_LR h w f) (okD_LR h w g)
  have gs := ge2 (neg := true) (a := LR h w f) (b := LR h w f) rfl (okD_LR h w f) (okD_LR h w f)
  rw [eqD_LR] at gs
  have st : m_law [.fz (scr ns)] = finF [] (b_law [some (.fz (scr ns)), none, none, none, none, none, none, none, none, none, none, none, none, none, none, none]) := rfl
  simp only [Int.natCast_zero] at hc0
  simp only [Int.natCast_one] at hc1
  have hc2 : m__law_cell [.fz (scr ns), .fz (.int 2)] = .ok (.fz (.int c2)) [] := hc2
  have hc3 : m__law_cell [.fz (scr ns), .fz (.int 3)] = .ok (.fz (.int c3)) [] := hc3
  have z1 := ixN_nat (n := h) (i := 0) h0
  have z2 := ixN_nat (n := w) (i := 0) w0
  simp only [Int.natCast_zero] at z1 z2
  have pt := put_tab (h := h) (w := w) (i := 0) (j := 0) (f := f) (v := f 0 0 + 1) h0 w0
  have gi : ((List.range h).map fun i' => T.lst ((List.range w).map fun j => .fz (.int (f i' j))))[0]? = some (T.lst ((List.range w).map fun j => .fz (.int (f 0 j)))) := by
    rw [List.getElem?_map, List.getElem?_range h0]; rfl
  -- the slots behind the ninth step
  let E9 : Option T → Option T → Option T → Option T → Option T → DL.Env := fun o8 o9 o10 o11 o12 => [some (.fz (scr ns)), some t2, some (.fz (.int (h : Int))), some (.fz (.int (w : Int))), some (.fz (.int (d : Int))), some (.fz (LR h w f)), some (mTr h w g), some (mTr w d k), o8, o9, o10, o11, o12, none, none, none]
  have pm : pureDs (mD h w f) = true := by
    have : ∀ l : List Nat, pureDs (l.map fun i => .tup (tR w (f i))) = true := by
      intro l
      induction l with
      | nil => rfl
      | cons a l ih =>
        have : ∀ l : List Nat, pureDs (l.map fun j => .int (f a j)) = true := by
          intro l
          induction l with
          | nil => rfl
          | cons a l ih => simp [ih]
        simp [ih, this]
    exact this _
  have s9 : fSet 9 (fRo (fMake 22 m_Matrix___init__ [none] (fCons (fVar 8) (fNil)))) (E9 (some (mTr h w f)) none none none none) = .nx (E9 (some (mTr h w f)) (some (mOT h w f)) none none none) := by
    simp [E9, frzE_cons, frzs_range, i1, pm]
  have s10 : fIfS (fRoT (fTestB (fBin (gEq2 true) (fVar 8) (fVar 5)))) (fRet (fC (.bl false))) (fNext) (E9 (some (mTr h w f)) (some (mOT h w f)) none none none) = .nx (E9 (some (mTr h w f)) (some (mOT h w f)) none none none) := by
    simp [-gEq2, E9, frzE_cons, frzs_range, gs]
  have s11 : fAsg (fRo (fBin gAdd2 (fBin gIx (fBin gIx (fVar 8) (fC (.int 0))) (fC (.int 0))) (fC (.int 1)))) (sPlPut (fPlIx (fPl 8) (fC (.int 0))) (fC (.int 0))) (E9 (some (mTr h w f)) (some (mOT h w f)) none none none) = .nx (E9 (some (mTr h w (upF f 0 0 (f 0 0 + 1)))) (some (mOT h w f)) none none none) := by
    simp [E9, frzE_cons, frzs_range, gf0, gf1, z1, z2, gi]
    exact T.lst.inj pt
  have sl : h ≤ sizeLine := Nat.le_trans (show h ≤ 13 by omega) (by decide)
  have cu := cut1 (n := h) (xs := (List.range h).map fun i => .lst (tR w (g i))) (by simp) h0
  have r0 := rows0_eq (h := h) (w := w) (f := g) h0
  have len : 1 + (((List.range h).map fun i => D.lst (tR w (g i))).drop 1).length ≤ sizeLine := by simp; omega
  let E12 : Option T → Option T → Option T → DL.Env := fun o10 o11 o12 => [some (.fz (scr ns)), some t2, some (.fz (.int (h : Int))), some (.fz (.int (w : Int))), some (.fz (.int (d : Int))), some (.fz (LR h w f)), some (.fz (LR h w g)), some (mTr w d k), some (mTr h w (upF f 0 0 (f 0 0 + 1))), some (mOT h w f), o10, o11, o12, none, none, none]
  have s12 : fSet 10 (fMake 22 m_Matrix___init__ [none] (fCons (fCB (g1 gTuple) (fCons (fBin gAdd2 (fLst (fCons (fCB (g1 gTuple) (fCons (fBin gIx (fVar 6) (fC (.int 0))) (fNil))) (fNil))) (fSl (fVar 6) (fPt (fC (.int 1))) fNoP)) (fNil))) (fNil))) (E9 (some (mTr h w (upF f 0 0 (f 0 0 + 1)))) (some (mOT h w f)) none none none) = .nx (E12 (some (mOT h w g)) none none) := by
    have av : fBin gAdd2 (fLst (fCons (fCB (g1 gTuple) (fCons (fBin gIx (fVar 6) (fC (.int 0))) (fNil))) (fNil))) (fSl (fVar 6) (fPt (fC (.int 1))) fNoP) (E9 (some (mTr h w (upF f 0 0 (f 0 0 + 1)))) (some (mOT h w f)) none none none) = .ok (.lst ((Rows0 w g h).map T.fz)) (E12 none none none) := by
      unfold Rows0
      revert cu len
      generalize ((List.range h).map fun i => D.lst (tR w (g i))).drop 1 = L
      intro cu len
      simp [-DL.cutD, E9, E12, frzs_range, g0, cu, frzs_fz, len]
    have gen : ∀ X : M T, X (E9 (some (mTr h w (upF f 0 0 (f 0 0 + 1)))) (some (mOT h w f)) none none none) = .ok (.lst ((Rows0 w g h).map T.fz)) (E12 none none none) → fSet 10 (fMake 22 m_Matrix___init__ [none] (fCons (fCB (g1 gTuple) (fCons X (fNil))) (fNil))) (E9 (some (mTr h w (upF f 0 0 (f 0 0 + 1)))) (some (mOT h w f)) none none none) = .nx (E12 (some (mOT h w g)) none none) := by
      intro X hX
      have fz : frzs ((Rows0 w g h).map T.fz) = mK (fun i => decide (i = 0)) h w g := by rw [frzs_fz, r0]
      revert hX fz
      generalize (Rows0 w g h).map T.fz = Y
      intro hX fz
      simp [hX, fz, i2, E12]
    exact gen _ av
  have s13 : fSet 11 (fMake 22 m_Matrix___init__ [none] (fCons (fLc (iSeq (fVar 7)) (sName 15) (fYes) b_law_e1 [15]) (fNil))) (E12 (some (mOT h w g)) none none) = .nx [some (.fz (scr ns)), some t2, some (.fz (.int (h : Int))), some (.fz (.int (w : Int))), some (.fz (.int (d : Int))), some (.fz (LR h w f)), some (.fz (LR h w g)), some (.fz (LR w d k)), some (mTr h w (upF f 0 0 (f 0 0 + 1))), some (mOT h w f), some (mOT h w g), some (mOT w d k), none, none, none, none] := by
    simp [E12, frzs_range, l11, i3]
  have s14 : fSet 12 (fBin gSub (fCall m__law_take [1] [some 1, none] (fMove 1 (fCons (fC (.int 41)) (fNil)))) (fC (.int 20))) [some (.fz (scr ns)), some t2, some (.fz (.int (h : Int))), some (.fz (.int (w : Int))), some (.fz (.int (d : Int))), some (.fz (LR h w f)), some (.fz (LR h w g)), some (.fz (LR w d k)), some (mTr h w (upF f 0 0 (f 0 0 + 1))), some (mOT h w f), some (mOT h w g), some (mOT w d k), none, none, none, none]
      = .nx [some (.fz (scr ns)), some t3, some (.fz (.int (h : Int))), some (.fz (.int (w : Int))), some (.fz (.int (d : Int))), some (.fz (LR h w f)), some (.fz (LR h w g)), some (.fz (LR w d k)), some (mTr h w (upF f 0 0 (f 0 0 + 1))), some (mOT h w f), some (mOT h w g), some (mOT w d k), some (.fz (.int (n - 20))), none, none, none] := by
    simp [e3]
  let EL : T → T → T → T → Option T → Option T → DL.Env := fun tp o9 o10 o11 o13 o14 => [some (.fz (scr ns)), some tp, some (.fz (.int (h : Int))), some (.fz (.int (w : Int))), some (.fz (.int (d : Int))), some (.fz (LR h w f)), some (.fz (LR h w g)), some (.fz (LR w d k)), some (mTr h w (upF f 0 0 (f 0 0 + 1))), some o9, some o10, some o11, some (.fz (.int (n - 20))), o13, o14, none]
  have body : ∀ (tp o9 o10 o11 : T) (o13 : Option T), frz o9 = mOb h w f → frz o10 = mOb h w g → frz o11 = mOb w d k → b_law_f0 (EL tp o9 o10 o11 o13 none) = .nx (EL tp (.fz (mOb h w f)) (.fz (mOb h w g)) (.fz (mOb w d k)) o13 none) := by
    intro tp o9 o10 o11 o13 x9 x10 x11
    simp [EL, b_law_f0, x9, x10, x11, pf, tf, mm, pp, im]
  have s15 : fFor (iArgs range1D (fCons (fC (.int 2)) (fNil))) (sName 13) b_law_f0 [some (.fz (scr ns)), some t3, some (.fz (.int (h : Int))), some (.fz (.int (w : Int))), some (.fz (.int (d : Int))), some (.fz (LR h w f)), some (.fz (LR h w g)), some (.fz (LR w d k)), some (mTr h w (upF f 0 0 (f 0 0 + 1))), some (mOT h w f), some (mOT h w g), some (mOT w d k), some (.fz (.int (n - 20))), none, none, none] = .nx (EL t3 (.fz (mOb h w f)) (.fz (mOb h w g)) (.fz (mOb w d k)) (some (.fz (.int 1))) none) := by
    show loopF (sName 13) b_law_f0 [.int 0, .int 1] _ = _
    have b1 := body t3 (mOT h w f) (mOT h w g) (mOT w d k) (some (.fz (.int 0))) (by simp) (by simp) (by simp)
    have b2 := body t3 (.fz (mOb h w f)) (.fz (mOb h w g)) (.fz (mOb w d k)) (some (.fz (.int 1))) rfl rfl rfl
    rw [loopF_go (by rfl) b1, loopF_go (by rfl) b2]
    rfl
  have s16 : fIfS (fOr (fNot (fTest (fCall m__law_parts_fit [1] [some 1, none, none, none] (fMove 1 (fCons (fVar 9) (fCons (fVar 5) (fCons (fVar 12) (fNil)))))))) (fTestB (fBin2 (gEqA 22 m_Matrix___eq__) (fVar 9) (fVar 5)))) (fRet (fC (.bl false))) (fNext) (EL t3 (.fz (mOb h w f)) (.fz (mOb h w g)) (.fz (mOb w d k)) (some (.fz (.int 1))) none) = .nx (EL t4 (.fz (mOb h w f)) (.fz (mOb h w g)) (.fz (mOb w d k)) (some (.fz (.int 1))) none) := by
    simp [EL, e4, ml]
  have s17 : fIfS (fOr (fTestB (fBin (gEq2 true) (fBin2 (gEqA 22 m_Matrix___eq__) (fVar 9) (fVar 10)) (fBin (gEq2 false) (fVar 5) (fVar 6)))) (fNot (fTest (fCall m__law_is [] [none, none] (fCons (fVar 9) (fCons (fVar 5) (fNil))))))) (fRet (fC (.bl false))) (fNext) (EL t4 (.fz (mOb h w f)) (.fz (mOb h w g)) (.fz (mOb w d k)) (some (.fz (.int 1))) none) = .nx (EL t4 (.fz (mOb h w f)) (.fz (mOb h w g)) (.fz (mOb w d k)) (some (.fz (.int 1))) none) := by
    have gg : ∀ b : Bool, gEq2 true (.bl b) (.bl b) = some (.fz (.bl false)) := fun b => by simp
    simp [-gEq2, EL, me, gl, gg, isf]
  have s18 : fIfS (fOr (fNot (fTest (fCall m__law_is [] [none, none] (fCons (fVar 10) (fCons (fVar 6) (fNil)))))) (fNot (fTest (fCall m__law_is [] [none, none] (fCons (fVar 11) (fCons (fVar 7) (fNil))))))) (fRet (fC (.bl false))) (fNext) (EL t4 (.fz (mOb h w f)) (.fz (mOb h w g)) (.fz (mOb w d k)) (some (.fz (.int 1))) none) = .nx (EL t4 (.fz (mOb h w f)) (.fz (mOb h w g)) (.fz (mOb w d k)) (some (.fz (.int 1))) none) := by
    simp [EL, isg, isk]
  have s19 : fSet 14 (fBin gAdd2 (fC (.int 1)) (fCall m__law_take [1] [some 1, none] (fMove 1 (fCons (fC (.int 3)) (fNil))))) (EL t4 (.fz (mOb h w f)) (.fz (mOb h w g)) (.fz (mOb w d k)) (some (.fz (.int 1))) none) = .nx (EL t5 (.fz (mOb h w f)) (.fz (mOb h w g)) (.fz (mOb w d k)) (some (.fz (.int 1))) (some (.fz (.int (1 + (a' : Int)))))) := by
    simp [EL, e5]
  rw [st]
  unfold b_law
  rw [seq_nx (e := [some (.fz (scr ns)), some t0, none, none, none, none, none, none, none, none, none, none, none, none, none, none]) (by simp [hc0, e0]),
    seq_nx (e := [some (.fz (scr ns)), some t1, some (.fz (.int (h : Int))), some (.fz (.int (w : Int))), none, none, none, none, none, none, none, none, none, none, none, none]) (by simp [e1]),
    seq_nx (e := [some (.fz (scr ns)), some t2, some (.fz (.int (h : Int))), some (.fz (.int (w : Int))), some (.fz (.int (d : Int))), none, none, none, none, none, none, none, none, none, none, none]) (by simp [e2, ed]),
    seq_nx (e := [some (.fz (scr ns)), some t2, some (.fz (.int (h : Int))), some (.fz (.int (w : Int))), some (.fz (.int (d : Int))), some (mTr h w f), none, none, none, none, none, none, none, none, none, none]) (by simp [hc1, p1, m1]),
    seq_nx (e := [some (.fz (scr ns)), some t2, some (.fz (.int (h : Int))), some (.fz (.int (w : Int))), some (.fz (.int (d : Int))), some (mTr h w f), some (mTr h w g), none, none, none, none, none, none, none, none, none]) (by simp [hc2, p2, m2]),
    seq_nx (e := [some (.fz (scr ns)), some t2, some (.fz (.int (h : Int))), some (.fz (.int (w : Int))), some (.fz (.int (d : Int))), some (mTr h w f), some (mTr h w g), some (mTr w d k), none, none, none, none, none, none, none, none]) (by simp [hc3, p3, m3]),
    seq_nx (e := E9 (some (mTr h w f)) none none none none) (by simp [E9, frzs_range, l8]),
    seq_nx s9, seq_nx s10, seq_nx s11, seq_nx s12, seq_nx s13, seq_nx s14, seq_nx s15, seq_nx s16, seq_nx s17, seq_nx s18, seq_nx s19]
  have ca : a' = 0 ∨ a' = 1 ∨ a' = 2 := by omega
  rcases ca with rfl | rfl | rfl <;> rfl
end K41

set_option maxHeartbeats 4000000
namespace K41
open PySem PySem.Spec PyProof.Rows L2 DL
section
variable {P : Program} {w : World} {K : PySem.W.Frag} {h : Heap} {mg : Str → Option Value}
theorem all_mk (X : K.In h) (G : h.Ns mainGlobals mg) {fa : Addr} (hfa : mg "law" = some (.ref fa))
    {cE2 : Addr} (eA2 : PySem.W.nsIn K mainGlobals "BadText" = some (some (.ref cE2)))
    {cE3 fE3 NE3 daE3 ccE3 : Addr} {nmE3 qE3 fiE3 : Str} {bsE3 bmE3 subE3 : List Value} {snE3 : List Str} {abE3 : Bool} {colE3 : Option Bool} {ddE3 odE3 anE3 cddE3 cldE3 : Option Addr} {mE3_0 mE3_1 mE3_2 mE3_3 mE3_5 : Option Value} {ocE3 kVE3 dcE3 pmE3 ctE3 cclE3 clE3 : Value} {slE3 ccsE3 cslE3 : Array (Option Value)} {vsE3 : Array Value} {tfE3 : Tok}
    (eA3 : PySem.W.nsIn K mainGlobals "BadRow" = some (some (.ref cE3))) (eX3 : K.lookup cE3 = some (excClassObj nmE3 qE3 cE3 NE3 bsE3 bmE3 true snE3 subE3 abE3 colE3 ddE3 mE3_0 mE3_1 mE3_2 mE3_3 mE3_5 "ValueError.__new__")) (eR3 : PySem.HandSPX.refsVE bmE3 = true)
    (eI3 : PySem.W.findIn K (.ref cE3) "__init__" = some (some (.ref fE3))) (eB3 : errB K cE3 fE3 ["at"] = true)
    (eL3 : K.lookup fE3 = some ⟨ocE3, odE3, .func (PySem.W.ksFn "__init__" "BadRow.__init__" (defArgs si_BadRow) (defBody si_BadRow) (defScope si_BadRow) .none kVE3 dcE3 pmE3 anE3 (.ref daE3) ctE3 ccE3), slE3⟩)
    (eC3 : PySem.W.codeIn K (.ref daE3) "BadRow.__init__" = true) (eD3 : K.lookup daE3 = some ⟨cclE3, cddE3, .fields vsE3, ccsE3⟩) (eV3 : vsE3[2]? = some (.str fiE3 tfE3)) (eF3 : ((P.main.file : Str) == fiE3) = true) (eE3 : K.lookup ccE3 = some ⟨clE3, cldE3, .cell (some (.ref cE3)), cslE3⟩)
    {cE4 fE4 NE4 daE4 ccE4 : Addr} {nmE4 qE4 fiE4 : Str} {bsE4 bmE4 subE4 : List Value} {snE4 : List Str} {abE4 : Bool} {colE4 : Option Bool} {ddE4 odE4 anE4 cddE4 cldE4 : Option Addr} {mE4_0 mE4_1 mE4_2 mE4_3 mE4_5 : Option Value} {ocE4 kVE4 dcE4 pmE4 ctE4 cclE4 clE4 : Value} {slE4 ccsE4 cslE4 : Array (Option Value)} {vsE4 : Array Value} {tfE4 : Tok}
    (eA4 : PySem.W.nsIn K mainGlobals "UnlikeShapes" = some (some (.ref cE4))) (eX4 : K.lookup cE4 = some (excClassObj nmE4 qE4 cE4 NE4 bsE4 bmE4 true snE4 subE4 abE4 colE4 ddE4 mE4_0 mE4_1 mE4_2 mE4_3 mE4_5 "ValueError.__new__")) (eR4 : PySem.HandSPX.refsVE bmE4 = true)
    (eI4 : PySem.W.findIn K (.ref cE4) "__init__" = some (some (.ref fE4))) (eB4 : errB K cE4 fE4 ["first", "second"] = true)
    (eL4 : K.lookup fE4 = some ⟨ocE4, odE4, .func (PySem.W.ksFn "__init__" "UnlikeShapes.__init__" (defArgs si_UnlikeShapes) (defBody si_UnlikeShapes) (defScope si_UnlikeShapes) .none kVE4 dcE4 pmE4 anE4 (.ref daE4) ctE4 ccE4), slE4⟩)
    (eC4 : PySem.W.codeIn K (.ref daE4) "UnlikeShapes.__init__" = true) (eD4 : K.lookup daE4 = some ⟨cclE4, cddE4, .fields vsE4, ccsE4⟩) (eV4 : vsE4[2]? = some (.str fiE4 tfE4)) (eF4 : ((P.main.file : Str) == fiE4) = true) (eE4 : K.lookup ccE4 = some ⟨clE4, cldE4, .cell (some (.ref cE4)), cslE4⟩)
    {cC22 : Addr} (kA22 : PySem.W.nsIn K mainGlobals "Matrix" = some (some (.ref cC22))) (kB22 : clsB K cC22 ["rows", "height", "width"] = true)
    (kR22 : crB K cC22 = true)
    (kI22 : isiB2 K [0, 0, cE2, cE3, cE4, 0, 0, 0, 0, 0, 0, 0, 0, 0, 0, 0, 0, 0, 0, 0, 0, 0, cC22] [22] 22 = true)
    (eN : PySem.W.nsIn K mainGlobals "super" = some none) (eY : PySem.W.nsIn K cStatics "thirdparty.any" = some none) (eT : (P.main.scope.names.lookup ("super" : Str)).isSome = false)
    (eQ3 : exmB K [0, 0, cE2, cE3, cE4, 0, 0, 0, 0, 0, 0, 0, 0, 0, 0, 0, 0, 0, 0, 0, 0, 0, cC22] [2, 3, 4] 3 = true)
    {fa0 : Addr} {od0 an0 : Option Addr} {sl0 : Array (Option Value)} {oc0 kV0 dc0 pm0 cd0 ct0 : Value}
    (a0 : PySem.W.nsIn K mainGlobals "_law_cell" = some (some (.ref fa0))) (l0 : K.lookup fa0 = some ⟨oc0, od0, .func (PySem.W.fnOf "_law_cell" "_law_cell" (defArgs s__law_cell) (defBody s__law_cell) (defScope s__law_cell) .none kV0 dc0 pm0 an0 cd0 ct0), sl0⟩) (c0 : PySem.W.codeIn K cd0 "_law_cell" = true) (k0 : PySem.W.keepIn K (.ref fa0) = true)
    {fa1 : Addr} {od1 an1 : Option Addr} {sl1 : Array (Option Value)} {oc1 kV1 dc1 pm1 cd1 ct1 : Value}
    (a1 : PySem.W.nsIn K mainGlobals "_law_pool" = some (some (.ref fa1))) (l1 : K.lookup fa1 = some ⟨oc1, od1, .func (PySem.W.fnOf "_law_pool" "_law_pool" (defArgs s__law_pool) (defBody s__law_pool) (defScope s__law_pool) .none kV1 dc1 pm1 an1 cd1 ct1), sl1⟩) (c1 : PySem.W.codeIn K cd1 "_law_pool" = true) (k1 : PySem.W.keepIn K (.ref fa1) = true)
    {fa2 : Addr} {od2 an2 : Option Addr} {sl2 : Array (Option Value)} {oc2 kV2 dc2 pm2 cd2 ct2 : Value}
    (a2 : PySem.W.nsIn K mainGlobals "_law_take" = some (some (.ref fa2))) (l2 : K.lookup fa2 = some ⟨oc2, od2, .func (PySem.W.fnOf "_law_take" "_law_take" (defArgs s__law_take) (defBody s__law_take) (defScope s__law_take) .none kV2 dc2 pm2 an2 cd2 ct2), sl2⟩) (c2 : PySem.W.codeIn K cd2 "_law_take" = true) (k2 : PySem.W.keepIn K (.ref fa2) = true)
    {fa3 : Addr} {od3 an3 : Option Addr} {sl3 : Array (Option Value)} {oc3 kV3 dc3 pm3 cd3 ct3 : Value}
    (a3 : PySem.W.nsIn K mainGlobals "_law_shape" = some (some (.ref fa3))) (l3 : K.lookup fa3 = some ⟨oc3, od3, .func (PySem.W.fnOf "_law_shape" "_law_shape" (defArgs s__law_shape) (defBody s__law_shape) (defScope s__law_shape) .none kV3 dc3 pm3 an3 cd3 ct3), sl3⟩) (c3 : PySem.W.codeIn K cd3 "_law_shape" = true) (k3 : PySem.W.keepIn K (.ref fa3) = true)
    {fa4 : Addr} {od4 an4 : Option Addr} {sl4 : Array (Option Value)} {oc4 kV4 dc4 pm4 cd4 ct4 : Value}
    (a4 : PySem.W.nsIn K mainGlobals "_law_matrix" = some (some (.ref fa4))) (l4 : K.lookup fa4 = some ⟨oc4, od4, .func (PySem.W.fnOf "_law_matrix" "_law_matrix" (defArgs s__law_matrix) (defBody s__law_matrix) (defScope s__law_matrix) .none kV4 dc4 pm4 an4 cd4 ct4), sl4⟩) (c4 : PySem.W.codeIn K cd4 "_law_matrix" = true) (k4 : PySem.W.keepIn K (.ref fa4) = true)
    {fa5 : Addr} {od5 an5 : Option Addr} {sl5 : Array (Option Value)} {oc5 kV5 dc5 pm5 cd5 ct5 : Value}
    (a5 : PySem.W.nsIn K mainGlobals "_law_made" = some (some (.ref fa5))) (l5 : K.lookup fa5 = some ⟨oc5, od5, .func (PySem.W.fnOf "_law_made" "_law_made" (defArgs s__law_made) (defBody s__law_made) (defScope s__law_made) .none kV5 dc5 pm5 an5 cd5 ct5), sl5⟩) (c5 : PySem.W.codeIn K cd5 "_law_made" = true) (k5 : PySem.W.keepIn K (.ref fa5) = true)
    {fa6 : Addr} {od6 an6 : Option Addr} {sl6 : Array (Option Value)} {oc6 kV6 dc6 pm6 cd6 ct6 : Value}
    (a6 : PySem.W.findIn K (.ref cC22) "__init__" = some (some (.ref fa6))) (l6 : K.lookup fa6 = some ⟨oc6, od6, .func (PySem.W.fnOf "__init__" "Matrix.__init__" (defArgs s_Matrix___init__) (defBody s_Matrix___init__) (defScope s_Matrix___init__) .none kV6 dc6 pm6 an6 cd6 ct6), sl6⟩) (c6 : PySem.W.codeIn K cd6 "Matrix.__init__" = true) (b6 : methB K fa6 = true)
    {fa7 : Addr} {od7 an7 : Option Addr} {sl7 : Array (Option Value)} {oc7 kV7 dc7 pm7 cd7 ct7 : Value}
    (a7 : PySem.W.nsIn K mainGlobals "sum_rows" = some (some (.ref fa7))) (l7 : K.lookup fa7 = some ⟨oc7, od7, .func (PySem.W.fnOf "sum_rows" "sum_rows" (defArgs s_sum_rows) (defBody s_sum_rows) (defScope s_sum_rows) .none kV7 dc7 pm7 an7 cd7 ct7), sl7⟩) (c7 : PySem.W.codeIn K cd7 "sum_rows" = true) (k7 : PySem.W.keepIn K (.ref fa7) = true)
    {fa8 : Addr} {od8 an8 : Option Addr} {sl8 : Array (Option Value)} {oc8 kV8 dc8 pm8 cd8 ct8 : Value}
    (a8 : PySem.W.findIn K (.ref cC22) "__add__" = some (some (.ref fa8))) (l8 : K.lookup fa8 = some ⟨oc8, od8, .func (PySem.W.fnOf "__add__" "Matrix.__add__" (defArgs s_Matrix___add__) (defBody s_Matrix___add__) (defScope s_Matrix___add__) .none kV8 dc8 pm8 an8 cd8 ct8), sl8⟩) (c8 : PySem.W.codeIn K cd8 "Matrix.__add__" = true) (b8 : methB K fa8 = true)
    {fa9 : Addr} {od9 an9 : Option Addr} {sl9 : Array (Option Value)} {oc9 kV9 dc9 pm9 cd9 ct9 : Value}
    (a9 : PySem.W.findIn K (.ref cC22) "__eq__" = some (some (.ref fa9))) (l9 : K.lookup fa9 = some ⟨oc9, od9, .func (PySem.W.fnOf "__eq__" "Matrix.__eq__" (defArgs s_Matrix___eq__) (defBody s_Matrix___eq__) (defScope s_Matrix___eq__) .none kV9 dc9 pm9 an9 cd9 ct9), sl9⟩) (c9 : PySem.W.codeIn K cd9 "Matrix.__eq__" = true) (b9 : methB K fa9 = true)
    {fa10 : Addr} {od10 an10 : Option Addr} {sl10 : Array (Option Value)} {oc10 kV10 dc10 pm10 cd10 ct10 : Value}
    (a10 : PySem.W.nsIn K mainGlobals "_law_is" = some (some (.ref fa10))) (l10 : K.lookup fa10 = some ⟨oc10, od10, .func (PySem.W.fnOf "_law_is" "_law_is" (defArgs s__law_is) (defBody s__law_is) (defScope s__law_is) .none kV10 dc10 pm10 an10 cd10 ct10), sl10⟩) (c10 : PySem.W.codeIn K cd10 "_law_is" = true) (k10 : PySem.W.keepIn K (.ref fa10) = true)
    {fa11 : Addr} {od11 an11 : Option Addr} {sl11 : Array (Option Value)} {oc11 kV11 dc11 pm11 cd11 ct11 : Value}
    (a11 : PySem.W.findIn K (.ref cC22) "__sub__" = some (some (.ref fa11))) (l11 : K.lookup fa11 = some ⟨oc11, od11, .func (PySem.W.fnOf "__sub__" "Matrix.__sub__" (defArgs s_Matrix___sub__) (defBody s_Matrix___sub__) (defScope s_Matrix___sub__) .none kV11 dc11 pm11 an11 cd11 ct11), sl11⟩) (c11 : PySem.W.codeIn K cd11 "Matrix.__sub__" = true) (b11 : methB K fa11 = true)
    {fa12 : Addr} {od12 an12 : Option Addr} {sl12 : Array (Option Value)} {oc12 kV12 dc12 pm12 cd12 ct12 : Value}
    (a12 : PySem.W.findIn K (.ref cC22) "shape" = some (some (.ref fa12))) (l12 : K.lookup fa12 = some ⟨oc12, od12, .func (PySem.W.fnOf "shape" "Matrix.shape" (defArgs s_Matrix_shape) (defBody s_Matrix_shape) (defScope s_Matrix_shape) .none kV12 dc12 pm12 an12 cd12 ct12), sl12⟩) (c12 : PySem.W.codeIn K cd12 "Matrix.shape" = true) (b12 : methB K fa12 = true)
    {fa13 : Addr} {od13 an13 : Option Addr} {sl13 : Array (Option Value)} {oc13 kV13 dc13 pm13 cd13 ct13 : Value}
    (a13 : PySem.W.findIn K (.ref cC22) "beside" = some (some (.ref fa13))) (l13 : K.lookup fa13 = some ⟨oc13, od13, .func (PySem.W.fnOf "beside" "Matrix.beside" (defArgs s_Matrix_beside) (defBody s_Matrix_beside) (defScope s_Matrix_beside) .none kV13 dc13 pm13 an13 cd13 ct13), sl13⟩) (c13 : PySem.W.codeIn K cd13 "Matrix.beside" = true) (b13 : methB K fa13 = true)
    {fa14 : Addr} {od14 an14 : Option Addr} {sl14 : Array (Option Value)} {oc14 kV14 dc14 pm14 cd14 ct14 : Value}
    (a14 : PySem.W.nsIn K mainGlobals "_law_pairs_fit" = some (some (.ref fa14))) (l14 : K.lookup fa14 = some ⟨oc14, od14, .func (PySem.W.fnOf "_law_pairs_fit" "_law_pairs_fit" (defArgs s__law_pairs_fit) (defBody s__law_pairs_fit) (defScope s__law_pairs_fit) .none kV14 dc14 pm14 an14 cd14 ct14), sl14⟩) (c14 : PySem.W.codeIn K cd14 "_law_pairs_fit" = true) (k14 : PySem.W.keepIn K (.ref fa14) = true)
    {fa15 : Addr} {od15 an15 : Option Addr} {sl15 : Array (Option Value)} {oc15 kV15 dc15 pm15 cd15 ct15 : Value}
    (a15 : PySem.W.findIn K (.ref cC22) "__neg__" = some (some (.ref fa15))) (l15 : K.lookup fa15 = some ⟨oc15, od15, .func (PySem.W.fnOf "__neg__" "Matrix.__neg__" (defArgs s_Matrix___neg__) (defBody s_Matrix___neg__) (defScope s_Matrix___neg__) .none kV15 dc15 pm15 an15 cd15 ct15), sl15⟩) (c15 : PySem.W.codeIn K cd15 "Matrix.__neg__" = true) (b15 : methB K fa15 = true)
    {fa16 : Addr} {od16 an16 : Option Addr} {sl16 : Array (Option Value)} {oc16 kV16 dc16 pm16 cd16 ct16 : Value}
    (a16 : PySem.W.findIn K (.ref cC22) "scaled" = some (some (.ref fa16))) (l16 : K.lookup fa16 = some ⟨oc16, od16, .func (PySem.W.fnOf "scaled" "Matrix.scaled" (defArgs s_Matrix_scaled) (defBody s_Matrix_scaled) (defScope s_Matrix_scaled) .none kV16 dc16 pm16 an16 cd16 ct16), sl16⟩) (c16 : PySem.W.codeIn K cd16 "Matrix.scaled" = true) (b16 : methB K fa16 = true)
    {fa17 : Addr} {od17 an17 : Option Addr} {sl17 : Array (Option Value)} {oc17 kV17 dc17 pm17 cd17 ct17 : Value}
    (a17 : PySem.W.findIn K (.ref cC22) "transposed" = some (some (.ref fa17))) (l17 : K.lookup fa17 = some ⟨oc17, od17, .func (PySem.W.fnOf "transposed" "Matrix.transposed" (defArgs s_Matrix_transposed) (defBody s_Matrix_transposed) (defScope s_Matrix_transposed) .none kV17 dc17 pm17 an17 cd17 ct17), sl17⟩) (c17 : PySem.W.codeIn K cd17 "Matrix.transposed" = true) (b17 : methB K fa17 = true)
    {fa18 : Addr} {od18 an18 : Option Addr} {sl18 : Array (Option Value)} {oc18 kV18 dc18 pm18 cd18 ct18 : Value}
    (a18 : PySem.W.nsIn K mainGlobals "_law_turned_fit" = some (some (.ref fa18))) (l18 : K.lookup fa18 = some ⟨oc18, od18, .func (PySem.W.fnOf "_law_turned_fit" "_law_turned_fit" (defArgs s__law_turned_fit) (defBody s__law_turned_fit) (defScope s__law_turned_fit) .none kV18 dc18 pm18 an18 cd18 ct18), sl18⟩) (c18 : PySem.W.codeIn K cd18 "_law_turned_fit" = true) (k18 : PySem.W.keepIn K (.ref fa18) = true)
    {fa19 : Addr} {od19 an19 : Option Addr} {sl19 : Array (Option Value)} {oc19 kV19 dc19 pm19 cd19 ct19 : Value}
    (a19 : PySem.W.nsIn K mainGlobals "_law_product" = some (some (.ref fa19))) (l19 : K.lookup fa19 = some ⟨oc19, od19, .func (PySem.W.fnOf "_law_product" "_law_product" (defArgs s__law_product) (defBody s__law_product) (defScope s__law_product) .none kV19 dc19 pm19 an19 cd19 ct19), sl19⟩) (c19 : PySem.W.codeIn K cd19 "_law_product" = true) (k19 : PySem.W.keepIn K (.ref fa19) = true)
    {fa20 : Addr} {od20 an20 : Option Addr} {sl20 : Array (Option Value)} {oc20 kV20 dc20 pm20 cd20 ct20 : Value}
    (a20 : PySem.W.nsIn K mainGlobals "product_rows" = some (some (.ref fa20))) (l20 : K.lookup fa20 = some ⟨oc20, od20, .func (PySem.W.fnOf "product_rows" "product_rows" (defArgs s_product_rows) (defBody s_product_rows) (defScope s_product_rows) .none kV20 dc20 pm20 an20 cd20 ct20), sl20⟩) (c20 : PySem.W.codeIn K cd20 "product_rows" = true) (k20 : PySem.W.keepIn K (.ref fa20) = true)
    {fa21 : Addr} {od21 an21 : Option Addr} {sl21 : Array (Option Value)} {oc21 kV21 dc21 pm21 cd21 ct21 : Value}
    (a21 : PySem.W.findIn K (.ref cC22) "__mul__" = some (some (.ref fa21))) (l21 : K.lookup fa21 = some ⟨oc21, od21, .func (PySem.W.fnOf "__mul__" "Matrix.__mul__" (defArgs s_Matrix___mul__) (defBody s_Matrix___mul__) (defScope s_Matrix___mul__) .none kV21 dc21 pm21 an21 cd21 ct21), sl21⟩) (c21 : PySem.W.codeIn K cd21 "Matrix.__mul__" = true) (b21 : methB K fa21 = true)
    {fa22 : Addr} {od22 an22 : Option Addr} {sl22 : Array (Option Value)} {oc22 kV22 dc22 pm22 cd22 ct22 : Value}
    (a22 : PySem.W.findIn K (.ref cC22) "part" = some (some (.ref fa22))) (l22 : K.lookup fa22 = some ⟨oc22, od22, .func (PySem.W.fnOf "part" "Matrix.part" (defArgs s_Matrix_part) (defBody s_Matrix_part) (defScope s_Matrix_part) .none kV22 dc22 pm22 an22 cd22 ct22), sl22⟩) (c22 : PySem.W.codeIn K cd22 "Matrix.part" = true) (b22 : methB K fa22 = true)
    {fa23 : Addr} {od23 an23 : Option Addr} {sl23 : Array (Option Value)} {oc23 kV23 dc23 pm23 cd23 ct23 : Value}
    {fp23 : Addr} {rs23 : List Value} (a23 : PySem.W.findCls K (.ref cC22) (.type "type") "diagonal" = some (.get (.builtin "classmethod.__get__") (.ref fp23) .none (.ref cC22))) (r23 : PySem.W.recIn K fp23 "classmethod" = some (.ref fa23 :: rs23)) (l23 : K.lookup fa23 = some ⟨oc23, od23, .func (PySem.W.fnOf "diagonal" "Matrix.diagonal" (defArgs s_Matrix_diagonal) (defBody s_Matrix_diagonal) (defScope s_Matrix_diagonal) .none kV23 dc23 pm23 an23 cd23 ct23), sl23⟩) (c23 : PySem.W.codeIn K cd23 "Matrix.diagonal" = true) (b23 : methB K fa23 = true)
    {fa24 : Addr} {od24 an24 : Option Addr} {sl24 : Array (Option Value)} {oc24 kV24 dc24 pm24 cd24 ct24 : Value}
    {fp24 : Addr} {rs24 : List Value} (a24 : PySem.W.findCls K (.ref cC22) (.type "type") "unit" = some (.get (.builtin "classmethod.__get__") (.ref fp24) .none (.ref cC22))) (r24 : PySem.W.recIn K fp24 "classmethod" = some (.ref fa24 :: rs24)) (l24 : K.lookup fa24 = some ⟨oc24, od24, .func (PySem.W.fnOf "unit" "Matrix.unit" (defArgs s_Matrix_unit) (defBody s_Matrix_unit) (defScope s_Matrix_unit) .none kV24 dc24 pm24 an24 cd24 ct24), sl24⟩) (c24 : PySem.W.codeIn K cd24 "Matrix.unit" = true) (b24 : methB K fa24 = true)
    {fa25 : Addr} {od25 an25 : Option Addr} {sl25 : Array (Option Value)} {oc25 kV25 dc25 pm25 cd25 ct25 : Value}
    (a25 : PySem.W.nsIn K mainGlobals "_law_parts_fit" = some (some (.ref fa25))) (l25 : K.lookup fa25 = some ⟨oc25, od25, .func (PySem.W.fnOf "_law_parts_fit" "_law_parts_fit" (defArgs s__law_parts_fit) (defBody s__law_parts_fit) (defScope s__law_parts_fit) .none kV25 dc25 pm25 an25 cd25 ct25), sl25⟩) (c25 : PySem.W.codeIn K cd25 "_law_parts_fit" = true) (k25 : PySem.W.keepIn K (.ref fa25) = true)
    {fa26 : Addr} {od26 an26 : Option Addr} {sl26 : Array (Option Value)} {oc26 kV26 dc26 pm26 cd26 ct26 : Value}
    (a26 : PySem.W.nsIn K mainGlobals "_law_refused" = some (some (.ref fa26))) (l26 : K.lookup fa26 = some ⟨oc26, od26, .func (PySem.W.fnOf "_law_refused" "_law_refused" (defArgs s__law_refused) (defBody s__law_refused) (defScope s__law_refused) .none kV26 dc26 pm26 an26 cd26 ct26), sl26⟩) (c26 : PySem.W.codeIn K cd26 "_law_refused" = true) (k26 : PySem.W.keepIn K (.ref fa26) = true)
    {fa27 : Addr} {od27 an27 : Option Addr} {sl27 : Array (Option Value)} {oc27 kV27 dc27 pm27 cd27 ct27 : Value}
    (a27 : PySem.W.nsIn K mainGlobals "law" = some (some (.ref fa27))) (l27 : K.lookup fa27 = some ⟨oc27, od27, .func (PySem.W.fnOf "law" "law" (defArgs s_law) (defBody s_law) (defScope s_law) .none kV27 dc27 pm27 an27 cd27 ct27), sl27⟩) (c27 : PySem.W.codeIn K cd27 "law" = true) (k27 : PySem.W.keepIn K (.ref fa27) = true)
    (z0 : PySem.W.nsIn K mainGlobals "len" = some none)
    (z1 : PySem.W.nsIn K mainGlobals "int" = some none)
    (z2 : PySem.W.nsIn K mainGlobals "range" = some none)
    (z3 : PySem.W.nsIn K mainGlobals "enumerate" = some none)
    (z4 : PySem.W.nsIn K mainGlobals "tuple" = some none)
    (z5 : PySem.W.nsIn K mainGlobals "zip" = some none)
    (z6 : PySem.W.nsIn K mainGlobals "isinstance" = some none)
    (z7 : PySem.W.nsIn K mainGlobals "sum" = some none)
    (z8 : PySem.W.nsIn K mainGlobals "list" = some none) :
    ∃ fd : FuncData, (∀ (s : Shared) (v : Value), BindsTo s fd ⟨[v], []⟩ [("_law_script", v)]) ∧ ∀ base : Heap, K.In base → base.Ns mainGlobals mg → FnOk P w K mg base (L2.CX P w) 8 fa fd ["_law_script"] (spLaw K m_law) := by
  have e := hfa.symm.trans (PySem.W.mg_of X G a27)
  cases e
  let C : Nat → Addr := fun i => ([0, 0, cE2, cE3, cE4, 0, 0, 0, 0, 0, 0, 0, 0, 0, 0, 0, 0, 0, 0, 0, 0, 0, cC22] : List Addr).getD i 0
  have G2 : mg "BadText" = some (.ref cE2) := PySem.W.mg_of X G eA2
  have G3 : mg "BadRow" = some (.ref cE3) := PySem.W.mg_of X G eA3
  have F3 := errB_ok eB3
  have O3 : OexC K cE3 := ErrF.oex (C := C) (c := 3) F3 eX3 eR3
  have U3 : SupC P K cE3 := ErrF.sup (C := C) (c := 3) F3 O3 eN eY eT
  have B3 : Binds K (PySem.W.ksFn "__init__" "BadRow.__init__" (defArgs si_BadRow) (defBody si_BadRow) (defScope si_BadRow) .none kVE3 dcE3 pmE3 anE3 (.ref daE3) ctE3 ccE3) ["self", "at"] [] := Binds.all fun us hl => match us, hl with | [_, _], _ => rfl
  have Q_BadRow : Caught K mg C [2, 3, 4] 3 "BadRow" ["at"] := ⟨exmB_ok eQ3, G3, F3.xf, F3.no⟩
  have G4 : mg "UnlikeShapes" = some (.ref cE4) := PySem.W.mg_of X G eA4
  have F4 := errB_ok eB4
  have O4 : OexC K cE4 := ErrF.oex (C := C) (c := 4) F4 eX4 eR4
  have U4 : SupC P K cE4 := ErrF.sup (C := C) (c := 4) F4 O4 eN eY eT
  have B4 : Binds K (PySem.W.ksFn "__init__" "UnlikeShapes.__init__" (defArgs si_UnlikeShapes) (defBody si_UnlikeShapes) (defScope si_UnlikeShapes) .none kVE4 dcE4 pmE4 anE4 (.ref daE4) ctE4 ccE4) ["self", "first", "second"] [] := Binds.all fun us hl => match us, hl with | [_, _, _], _ => rfl
  have K_Matrix : CF K mg C 22 "Matrix" ["rows", "height", "width"] := clsB_ok (C := C) (c := 22) (PySem.W.mg_of X G kA22) kB22
  have I_Matrix : IsiC K C [22] 22 := isiB2_ok kI22
  have A0 : At K mg "_law_cell" s__law_cell ["_law_script", "_law_k"] := at_mk X G a0 l0 c0 k0 fun _ _ _ _ _ _ us hl => match us, hl with | [_, _], _ => rfl
  have A1 : At K mg "_law_pool" s__law_pool ["_law_cell_here"] := at_mk X G a1 l1 c1 k1 fun _ _ _ _ _ _ us hl => match us, hl with | [_], _ => rfl
  have A2 : At K mg "_law_take" s__law_take ["_law_pool_here", "_law_limit"] := at_mk X G a2 l2 c2 k2 fun _ _ _ _ _ _ us hl => match us, hl with | [_, _], _ => rfl
  have A3 : At K mg "_law_shape" s__law_shape ["_law_pool_here"] := at_mk X G a3 l3 c3 k3 fun _ _ _ _ _ _ us hl => match us, hl with | [_], _ => rfl
  have A4 : At K mg "_law_matrix" s__law_matrix ["_law_pool_here", "_law_height", "_law_width"] := at_mk X G a4 l4 c4 k4 fun _ _ _ _ _ _ us hl => match us, hl with | [_, _, _], _ => rfl
  have A5 : At K mg "_law_made" s__law_made ["_law_pool_here", "_law_height", "_law_width"] := at_mk X G a5 l5 c5 k5 fun _ _ _ _ _ _ us hl => match us, hl with | [_, _, _], _ => rfl
  have A6 : Am K C 22 "__init__" "Matrix.__init__" s_Matrix___init__ ["self", "rows"] := am_mk (C := C) (c := 22) a6 l6 c6 b6 fun _ _ _ _ _ _ us hl => match us, hl with | [_, _], _ => rfl
  have A7 : At K mg "sum_rows" s_sum_rows ["first", "second", "factor"] := at_mk X G a7 l7 c7 k7 fun _ _ _ _ _ _ us hl => match us, hl with | [_, _, _], _ => rfl
  have A8 : Am K C 22 "__add__" "Matrix.__add__" s_Matrix___add__ ["self", "other"] := am_mk (C := C) (c := 22) a8 l8 c8 b8 fun _ _ _ _ _ _ us hl => match us, hl with | [_, _], _ => rfl
  have A9 : Am K C 22 "__eq__" "Matrix.__eq__" s_Matrix___eq__ ["self", "other"] := am_mk (C := C) (c := 22) a9 l9 c9 b9 fun _ _ _ _ _ _ us hl => match us, hl with | [_, _], _ => rfl
  have A10 : At K mg "_law_is" s__law_is ["_law_told", "_law_rows"] := at_mk X G a10 l10 c10 k10 fun _ _ _ _ _ _ us hl => match us, hl with | [_, _], _ => rfl
  have A11 : Am K C 22 "__sub__" "Matrix.__sub__" s_Matrix___sub__ ["self", "other"] := am_mk (C := C) (c := 22) a11 l11 c11 b11 fun _ _ _ _ _ _ us hl => match us, hl with | [_, _], _ => rfl
  have A12 : Am K C 22 "shape" "Matrix.shape" s_Matrix_shape ["self"] := am_mk (C := C) (c := 22) a12 l12 c12 b12 fun _ _ _ _ _ _ us hl => match us, hl with | [_], _ => rfl
  have A13 : Am K C 22 "beside" "Matrix.beside" s_Matrix_beside ["self", "other"] := am_mk (C := C) (c := 22) a13 l13 c13 b13 fun _ _ _ _ _ _ us hl => match us, hl with | [_, _], _ => rfl
  have A14 : At K mg "_law_pairs_fit" s__law_pairs_fit ["_law_one", "_law_two", "_law_first", "_law_second"] := at_mk X G a14 l14 c14 k14 fun _ _ _ _ _ _ us hl => match us, hl with | [_, _, _, _], _ => rfl
  have A15 : Am K C 22 "__neg__" "Matrix.__neg__" s_Matrix___neg__ ["self"] := am_mk (C := C) (c := 22) a15 l15 c15 b15 fun _ _ _ _ _ _ us hl => match us, hl with | [_], _ => rfl
  have A16 : Am K C 22 "scaled" "Matrix.scaled" s_Matrix_scaled ["self", "n"] := am_mk (C := C) (c := 22) a16 l16 c16 b16 fun _ _ _ _ _ _ us hl => match us, hl with | [_, _], _ => rfl
  have A17 : Am K C 22 "transposed" "Matrix.transposed" s_Matrix_transposed ["self"] := am_mk (C := C) (c := 22) a17 l17 c17 b17 fun _ _ _ _ _ _ us hl => match us, hl with | [_], _ => rfl
  have A18 : At K mg "_law_turned_fit" s__law_turned_fit ["_law_one", "_law_first", "_law_n"] := at_mk X G a18 l18 c18 k18 fun _ _ _ _ _ _ us hl => match us, hl with | [_, _, _], _ => rfl
  have A19 : At K mg "_law_product" s__law_product ["_law_first", "_law_second"] := at_mk X G a19 l19 c19 k19 fun _ _ _ _ _ _ us hl => match us, hl with | [_, _], _ => rfl
  have A20 : At K mg "product_rows" s_product_rows ["first", "second"] := at_mk X G a20 l20 c20 k20 fun _ _ _ _ _ _ us hl => match us, hl with | [_, _], _ => rfl
  have A21 : Am K C 22 "__mul__" "Matrix.__mul__" s_Matrix___mul__ ["self", "other"] := am_mk (C := C) (c := 22) a21 l21 c21 b21 fun _ _ _ _ _ _ us hl => match us, hl with | [_, _], _ => rfl
  have A22 : Am K C 22 "part" "Matrix.part" s_Matrix_part ["self", "rows", "columns"] := am_mk (C := C) (c := 22) a22 l22 c22 b22 fun _ _ _ _ _ _ us hl => match us, hl with | [_, _, _], _ => rfl
  have A23 : Ac K C 22 "diagonal" "Matrix.diagonal" s_Matrix_diagonal ["cls", "numbers", "height", "width"] := ac_mk (C := C) (c := 22) kR22 a23 r23 l23 c23 b23 fun _ _ _ _ _ _ us hl => match us, hl with | [_, _, _, _], _ => rfl
  have A24 : Ac K C 22 "unit" "Matrix.unit" s_Matrix_unit ["cls", "n"] := ac_mk (C := C) (c := 22) kR22 a24 r24 l24 c24 b24 fun _ _ _ _ _ _ us hl => match us, hl with | [_, _], _ => rfl
  have A25 : At K mg "_law_parts_fit" s__law_parts_fit ["_law_pool_here", "_law_one", "_law_first", "_law_n"] := at_mk X G a25 l25 c25 k25 fun _ _ _ _ _ _ us hl => match us, hl with | [_, _, _, _], _ => rfl
  have A26 : At K mg "_law_refused" s__law_refused ["_law_rows"] := at_mk X G a26 l26 c26 k26 fun _ _ _ _ _ _ us hl => match us, hl with | [_], _ => rfl
  have h_len : mg "len" = none := PySem.W.mg_none_of X G z0
  have h_int : mg "int" = none := PySem.W.mg_none_of X G z1
  have h_range : mg "range" = none := PySem.W.mg_none_of X G z2
  have h_enumerate : mg "enumerate" = none := PySem.W.mg_none_of X G z3
  have h_tuple : mg "tuple" = none := PySem.W.mg_none_of X G z4
  have h_zip : mg "zip" = none := PySem.W.mg_none_of X G z5
  have h_isinstance : mg "isinstance" = none := PySem.W.mg_none_of X G z6
  have h_sum : mg "sum" = none := PySem.W.mg_none_of X G z7
  have h_list : mg "list" = none := PySem.W.mg_none_of X G z8
  refine ⟨PySem.W.fnOf "law" "law" (defArgs s_law) (defBody s_law) (defScope s_law) .none kV27 dc27 pm27 an27 cd27 ct27, fun s v => .of_eq rfl, fun base _ _ => ?_⟩
  have E_BadRow : Err P w K mg base C 3 "BadRow" ["self", "at"] (spE1 K (C 3) "at") := ⟨fE3, _, O3, eI3, F3.tI, dE_BadRow (supF_mk eL3 eC3 eD3 eV3 eF3 eE3) U3 (F3.no _ (by simp)), B3, G3⟩
  have E_UnlikeShapes : Err P w K mg base C 4 "UnlikeShapes" ["self", "first", "second"] (spE2 K (C 4) "first" "second") := ⟨fE4, _, O4, eI4, F4.tI, dE_UnlikeShapes (supF_mk eL4 eC4 eD4 eV4 eF4 eE4) U4 (F4.no _ (by simp)) (F4.no _ (by simp)), B4, G4⟩
  have D__law_cell : Df P w K mg base C "_law_cell" 1 ["_law_script", "_law_k"] [] m__law_cell := d__law_cell A0 h_len
  have D__law_pool : Df P w K mg base C "_law_pool" 1 ["_law_cell_here"] [] m__law_pool := d__law_pool A1 
  have D__law_take : Df P w K mg base C "_law_take" 1 ["_law_pool_here", "_law_limit"] [0] m__law_take := d__law_take A2 h_int
  have D__law_shape : Df P w K mg base C "_law_shape" 2 ["_law_pool_here"] [0] m__law_shape := d__law_shape A3 D__law_take
  have D__law_matrix : Df P w K mg base C "_law_matrix" 2 ["_law_pool_here", "_law_height", "_law_width"] [0] m__law_matrix := d__law_matrix A4 h_range h_enumerate D__law_take
  have D__law_made : Df P w K mg base C "_law_made" 3 ["_law_pool_here", "_law_height", "_law_width"] [0] m__law_made := d__law_made A5 D__law_matrix D__law_take
  have D_Matrix___init__ : Dm P w K mg base C 22 "__init__" 3 ["self", "rows"] [0] m_Matrix___init__ := d_Matrix___init__ A6 h_tuple h_len h_enumerate K_Matrix E_BadRow
  have D_sum_rows : Df P w K mg base C "sum_rows" 3 ["first", "second", "factor"] [] m_sum_rows := d_sum_rows A7 h_zip K_Matrix E_UnlikeShapes
  have D_Matrix___add__ : Dm P w K mg base C 22 "__add__" 5 ["self", "other"] [] m_Matrix___add__ := d_Matrix___add__ A8 K_Matrix D_sum_rows D_Matrix___init__
  have D_Matrix___eq__ : Dm P w K mg base C 22 "__eq__" 1 ["self", "other"] [] m_Matrix___eq__ := d_Matrix___eq__ A9 h_isinstance K_Matrix I_Matrix
  have D__law_is : Df P w K mg base C "_law_is" 5 ["_law_told", "_law_rows"] [] m__law_is := d__law_is A10 h_isinstance h_tuple h_len K_Matrix I_Matrix D_Matrix___init__ D_Matrix___eq__
  have D_Matrix___sub__ : Dm P w K mg base C 22 "__sub__" 5 ["self", "other"] [] m_Matrix___sub__ := d_Matrix___sub__ A11 K_Matrix D_sum_rows D_Matrix___init__
  have D_Matrix_shape : Dm P w K mg base C 22 "shape" 1 ["self"] [] m_Matrix_shape := d_Matrix_shape A12 K_Matrix
  have D_Matrix_beside : Dm P w K mg base C 22 "beside" 5 ["self", "other"] [] m_Matrix_beside := d_Matrix_beside A13 h_zip K_Matrix D_Matrix_shape D_Matrix___init__ E_UnlikeShapes
  have D__law_pairs_fit : Df P w K mg base C "_law_pairs_fit" 6 ["_law_one", "_law_two", "_law_first", "_law_second"] [] m__law_pairs_fit := d__law_pairs_fit A14 h_range h_len h_zip K_Matrix D_Matrix___add__ D__law_is D_Matrix___sub__ D_Matrix_beside
  have D_Matrix___neg__ : Dm P w K mg base C 22 "__neg__" 5 ["self"] [] m_Matrix___neg__ := d_Matrix___neg__ A15 K_Matrix D_Matrix___init__
  have D_Matrix_scaled : Dm P w K mg base C 22 "scaled" 5 ["self", "n"] [] m_Matrix_scaled := d_Matrix_scaled A16 K_Matrix D_Matrix___init__
  have D_Matrix_transposed : Dm P w K mg base C 22 "transposed" 5 ["self"] [] m_Matrix_transposed := d_Matrix_transposed A17 h_range K_Matrix D_Matrix___init__
  have D__law_turned_fit : Df P w K mg base C "_law_turned_fit" 6 ["_law_one", "_law_first", "_law_n"] [] m__law_turned_fit := d__law_turned_fit A18 h_len h_range K_Matrix D_Matrix___neg__ D__law_is D_Matrix_scaled D_Matrix_transposed
  have D__law_product : Df P w K mg base C "_law_product" 1 ["_law_first", "_law_second"] [] m__law_product := d__law_product A19 h_range h_len h_sum
  have D_product_rows : Df P w K mg base C "product_rows" 3 ["first", "second"] [] m_product_rows := d_product_rows A20 h_list h_zip h_sum K_Matrix E_UnlikeShapes
  have D_Matrix___mul__ : Dm P w K mg base C 22 "__mul__" 5 ["self", "other"] [] m_Matrix___mul__ := d_Matrix___mul__ A21 K_Matrix D_product_rows D_Matrix___init__
  have D_Matrix_part : Dm P w K mg base C 22 "part" 5 ["self", "rows", "columns"] [] m_Matrix_part := d_Matrix_part A22 K_Matrix D_Matrix___init__
  have D_Matrix_diagonal : Dc P w K mg base C 22 "diagonal" 5 ["cls", "numbers", "height", "width"] m_Matrix_diagonal := d_Matrix_diagonal A23 h_range h_enumerate K_Matrix D_Matrix___init__
  have D_Matrix_unit : Dc P w K mg base C 22 "unit" 6 ["cls", "n"] m_Matrix_unit := d_Matrix_unit A24 D_Matrix_diagonal
  have D__law_parts_fit : Df P w K mg base C "_law_parts_fit" 7 ["_law_pool_here", "_law_one", "_law_first", "_law_n"] [0] m__law_parts_fit := d__law_parts_fit A25 h_len h_range h_int K_Matrix D__law_take D_Matrix_part D__law_is D_Matrix_unit D_Matrix_diagonal
  have D__law_refused : Df P w K mg base C "_law_refused" 5 ["_law_rows"] [] m__law_refused := d__law_refused A26 K_Matrix D_Matrix___init__ Q_BadRow
  exact law_imp (C := C) (d_law (fun_mk (st := s_law) l27 c27 k27) h_list h_tuple h_range K_Matrix D__law_cell D__law_pool D__law_shape D__law_take D__law_made D_Matrix___init__ D__law_pairs_fit D__law_turned_fit D__law_product D_Matrix___mul__ D__law_is D__law_parts_fit D_Matrix___eq__ D__law_refused)
end
end K41
open PySem PySem.W PyProof.Rows
set_option maxHeartbeats 0 in
theorem PySem.Challenge.cw_everyfield_k41_matrices_by_items_holds : PySem.Challenge.rw_everyfield_k41_matrices_by_items.Holds := by
  w_on; o_law; k_head; (case hw => w_witness2)
  k_fill
  refine L2.walk_ofB (l := PySem.Challenge.rw_everyfield_k41_matrices_by_items) (n := 63) (k := 8) (x := "_law_script") (CX := fun w => L2.CX (PySem.Challenge.rw_everyfield_k41_matrices_by_items).prog w) (sp := fun w => DL.spLaw _ K41.m_law) rfl (by decide) rfl ⟨rfl, by decide, by decide⟩ (fun w h Y => PySem.W.kIn_of Y) ?F (fun _ H a ns hl hb _ hS => DL.law_sp2 K41.law_holds H a ns hl hb hS) (fun _ _ _ _ _ h => DL.law_cx h)
  case F =>
    intro w mg fa h KX G hmg
    refine' K41.all_mk KX G hmg ?eA2 ?eA3 ?eX3 ?eR3 ?eI3 ?eB3 ?eL3 ?eC3 ?eD3 ?eV3 ?eF3 ?eE3 ?eA4 ?eX4 ?eR4 ?eI4 ?eB4 ?eL4 ?eC4 ?eD4 ?eV4 ?eF4 ?eE4 ?kA22 ?kB22 ?kR22 ?kI22 ?eN ?eY ?eT ?eQ3 ?a0 ?l0 ?c0 ?k0 ?a1 ?l1 ?c1 ?k1 ?a2 ?l2 ?c2 ?k2 ?a3 ?l3 ?c3 ?k3 ?a4 ?l4 ?c4 ?k4 ?a5 ?l5 ?c5 ?k5 ?a6 ?l6 ?c6 ?b6 ?a7 ?l7 ?c7 ?k7 ?a8 ?l8 ?c8 ?b8 ?a9 ?l9 ?c9 ?b9 ?a10 ?l10 ?c10 ?k10 ?a11 ?l11 ?c11 ?b11 ?a12 ?l12 ?c12 ?b12 ?a13 ?l13 ?c13 ?b13 ?a14 ?l14 ?c14 ?k14 ?a15 ?l15 ?c15 ?b15 ?a16 ?l16 ?c16 ?b16 ?a17 ?l17 ?c17 ?b17 ?a18 ?l18 ?c18 ?k18 ?a19 ?l19 ?c19 ?k19 ?a20 ?l20 ?c20 ?k20 ?a21 ?l21 ?c21 ?b21 ?a22 ?l22 ?c22 ?b22 ?a23 ?r23 ?l23 ?c23 ?b23 ?a24 ?r24 ?l24 ?c24 ?b24 ?a25 ?l25 ?c25 ?k25 ?a26 ?l26 ?c26 ?k26 ?a27 ?l27 ?c27 ?k27 ?z0 ?z1 ?z2 ?z3 ?z4 ?z5 ?z6 ?z7 ?z8
    (case eA2 => k_is)
    (case eA3 => k_is)
    (case eX3 => k_is)
    (case eR3 => first | rfl | decide +kernel | k_is)
    (case eI3 => k_is)
    (case eB3 => kernel_rfl)
    (case eL3 => k_is)
    (case eC3 => k_is)
    (case eD3 => k_is)
    (case eV3 => first | rfl | k_is)
    (case eF3 => first | rfl | decide +kernel | k_is)
    (case eE3 => k_is)
    (case eA4 => k_is)
    (case eX4 => k_is)
    (case eR4 => first | rfl | decide +kernel | k_is)
    (case eI4 => k_is)
    (case eB4 => kernel_rfl)
    (case eL4 => k_is)
    (case eC4 => k_is)
    (case eD4 => k_is)
    (case eV4 => first | rfl | k_is)
    (case eF4 => first | rfl | decide +kernel | k_is)
    (case eE4 => k_is)
    (case kA22 => k_is)
    (case kB22 => kernel_rfl)
    (case kR22 => kernel_rfl)
    (case eN => k_is)
    (case eY => k_is)
    (case eT => first | rfl | decide +kernel | k_is)
    (case a0 => k_is)
    (case l0 => k_is)
    (case c0 => k_is)
    (case k0 => k_is)
    (case a1 => k_is)
    (case l1 => k_is)
    (case c1 => k_is)
    (case k1 => k_is)
    (case a2 => k_is)
    (case l2 => k_is)
    (case c2 => k_is)
    (case k2 => k_is)
    (case a3 => k_is)
    (case l3 => k_is)
    (case c3 => k_is)
    (case k3 => k_is)
    (case a4 => k_is)
    (case l4 => k_is)
    (case c4 => k_is)
    (case k4 => k_is)
    (case a5 => k_is)
    (case l5 => k_is)
    (case c5 => k_is)
    (case k5 => k_is)
    (case a6 => k_is)
    (case l6 => k_is)
    (case c6 => k_is)
    (case b6 => kernel_rfl)
    (case a7 => k_is)
    (case l7 => k_is)
    (case c7 => k_is)
    (case k7 => k_is)
    (case a8 => k_is)
    (case l8 => k_is)
    (case c8 => k_is)
    (case b8 => kernel_rfl)
    (case a9 => k_is)
    (case l9 => k_is)
    (case c9 => k_is)
    (case b9 => kernel_rfl)
    (case a10 => k_is)
    (case l10 => k_is)
    (case c10 => k_is)
    (case k10 => k_is)
    (case a11 => k_is)
    (case l11 => k_is)
    (case c11 => k_is)
    (case b11 => kernel_rfl)
    (case a12 => k_is)
    (case l12 => k_is)
    (case c12 => k_is)
    (case b12 => kernel_rfl)
    (case a13 => k_is)
    (case l13 => k_is)
    (case c13 => k_is)
    (case b13 => kernel_rfl)
    (case a14 => k_is)
    (case l14 => k_is)
    (case c14 => k_is)
    (case k14 => k_is)
    (case a15 => k_is)
    (case l15 => k_is)
    (case c15 => k_is)
    (case b15 => kernel_rfl)
    (case a16 => k_is)
    (case l16 => k_is)
    (case c16 => k_is)
    (case b16 => kernel_rfl)
    (case a17 => k_is)
    (case l17 => k_is)
    (case c17 => k_is)
    (case b17 => kernel_rfl)
    (case a18 => k_is)
    (case l18 => k_is)
    (case c18 => k_is)
    (case k18 => k_is)
    (case a19 => k_is)
    (case l19 => k_is)
    (case c19 => k_is)
    (case k19 => k_is)
    (case a20 => k_is)
    (case l20 => k_is)
    (case c20 => k_is)
    (case k20 => k_is)
    (case a21 => k_is)
    (case l21 => k_is)
    (case c21 => k_is)
    (case b21 => kernel_rfl)
    (case a22 => k_is)
    (case l22 => k_is)
    (case c22 => k_is)
    (case b22 => kernel_rfl)
    (case a23 => k_is)
    (case r23 => k_is)
    (case l23 => k_is)
    (case c23 => k_is)
    (case b23 => kernel_rfl)
    (case a24 => k_is)
    (case r24 => k_is)
    (case l24 => k_is)
    (case c24 => k_is)
    (case b24 => kernel_rfl)
    (case a25 => k_is)
    (case l25 => k_is)
    (case c25 => k_is)
    (case k25 => k_is)
    (case a26 => k_is)
    (case l26 => k_is)
    (case c26 => k_is)
    (case k26 => k_is)
    (case a27 => k_is)
    (case l27 => k_is)
    (case c27 => k_is)
    (case k27 => k_is)
    (case z0 => k_is)
    (case z1 => k_is)
    (case z2 => k_is)
    (case z3 => k_is)
    (case z4 => k_is)
    (case z5 => k_is)
    (case z6 => k_is)
    (case z7 => k_is)
    (case z8 => k_is)
    (case kI22 => kernel_rfl)
    (case eQ3 => kernel_rfl)

