import PyProof.Rows.All
import Wide.All
import OpenK.AllK
import Wide.FinOn
import HandS.ForMost
import HandS.ForExc
import HandS.CallSlots
import HandS.Walk
import HandS.Wide
import HandS.IsInst
import HandS.Zip
import HandS.Comp
import HandS.EndBits
import PySem.Challenge.RW_everyfield_k11_common_divisors
set_option Elab.async false
set_option linter.all false
set_option maxRecDepth 100000
set_option maxHeartbeats 4000000
namespace DL
open PySem PySem.Spec PyProof.Rows L2

/-- frozen data -/
inductive D where
  | non | bl (b : Bool) | int (i : Int) | str (x : Str) | ty (n : String)
  | cls (c : Nat)
  | lst (xs : List D) | tup (xs : List D)
  | obj (c : Nat) (ns : List Str) (xs : List D)
  | dic (ks : List D) (xs : List D)
  | xd (c : Nat) (ns : List Str) (xs : List D)

/-- owned trees over frozen data -/
inductive T where
  | fz (d : D)
  | lst (xs : List T)
  | obj (c : Nat) (ns : List Str) (xs : List T)
  | dic (ks : List D) (xs : List T)

/-- what is fixed: the written part, the classes -/
structure Wd where
  K : PySem.W.Frag
  C : Nat → Addr

section
variable (Z : Wd)
mutual
def Rp (F : Hp) : V → D → Prop
  | v, .non => v = .non
  | v, .bl b => v = .bl b
  | v, .int i => v = .int i
  | v, .str x => v = .str x
  | v, .ty n => v = .ty n
  | v, .cls c => v = .ref (Z.C c)
  | v, .lst ds => ∃ a vs, v = .ref a ∧ SqL Z.K F a vs ∧ Rps F vs ds
  | v, .tup ds => ∃ a vs, v = .ref a ∧ SqT Z.K F a vs ∧ Rps F vs ds
  | v, .obj c ns ds => ∃ a dx vs, v = .ref a ∧ F a = some (.ins (Z.C c) dx (ns.zip vs)) ∧ ns.length = vs.length ∧ Rps F vs ds
  | v, .dic ks ds => ∃ a kvs, v = .ref a ∧ F a = some (.dK kvs) ∧ Rps F (kvs.map fun p => kV p.1) ks ∧ Rps F (kvs.map fun p => p.2) ds
  | v, .xd _ ns ds => ∃ a vs, v = .ref a ∧ F a = some (.xd (ns.zip vs)) ∧ ns.length = vs.length ∧ Rps F vs ds
def Rps (F : Hp) : List V → List D → Prop
  | [], [] => True
  | v :: vs, d :: ds => Rp F v d ∧ Rps F vs ds
  | _, _ => False
end
mutual
def Own (F H : Hp) : V → T → List Addr → Prop
  | v, .fz d, fp => Rp Z F v d ∧ fp = []
  | v, .lst ts, fp => ∃ a vs fp', v = .ref a ∧ H a = some (.lst vs) ∧ Owns F H vs ts fp' ∧ fp = a :: fp'
  | v, .obj c ns ts, fp => ∃ a dx vs fp', v = .ref a ∧ H a = some (.ins (Z.C c) dx (ns.zip vs)) ∧ ns.length = vs.length ∧ H dx = some (.own a) ∧ Owns F H vs ts fp' ∧ fp = a :: dx :: fp'
  | v, .dic ks ts, fp => ∃ a kvs fp', v = .ref a ∧ H a = some (.dK kvs) ∧ Rps Z F (kvs.map fun p => kV p.1) ks ∧ Owns F H (kvs.map fun p => p.2) ts fp' ∧ fp = a :: fp'
def Owns (F H : Hp) : List V → List T → List Addr → Prop
  | [], [], fp => fp = []
  | v :: vs, t :: ts, fp => ∃ f1 f2, Own F H v t f1 ∧ Owns F H vs ts f2 ∧ fp = f1 ++ f2
  | _, _, _ => False
end
end
mutual
@[simp] def frz : T → D
  | .fz d => d
  | .lst ts => .lst (frzs ts)
  | .obj c ns ts => .obj c ns (frzs ts)
  | .dic ks ts => .dic ks (frzs ts)
@[simp] def frzs : List T → List D
  | [] => []
  | t :: ts => frz t :: frzs ts
end

/-! ### frozen data stay -/
theorem same_t {K : PySem.W.Frag} {H H' : Hp} {a : Addr} {xs : List V} (e : Same H H') (h : SqT K H a xs) : SqT K H' a xs := by
  rcases h with (h | ⟨o, h⟩) | h
  · exact .inl (.inl (e _ _ h))
  · exact .inl (.inr ⟨o, e _ _ h⟩)
  · exact .inr h
section
variable {Z : Wd} {F F' H H' : Hp}
mutual
theorem Rp.mono (s : Same F F') : ∀ {v : V} {d : D}, Rp Z F v d → Rp Z F' v d
  | _, .non, h => h
  | _, .bl _, h => h
  | _, .int _, h => h
  | _, .str _, h => h
  | _, .ty _, h => h
  | _, .cls _, h => h
  | _, .lst ds, h => by
    obtain ⟨a, vs, e, q, r⟩ := h
    exact ⟨a, vs, e, s.seq q, Rps.mono s (ds := ds) r⟩
  | _, .tup ds, h => by
    obtain ⟨a, vs, e, q, r⟩ := h
    exact ⟨a, vs, e, same_t s q, Rps.mono s (ds := ds) r⟩
  | _, .obj c ns ds, h => by
    obtain ⟨a, dx, vs, e, q, l, r⟩ := h
    exact ⟨a, dx, vs, e, s _ _ q, l, Rps.mono s (ds := ds) r⟩
  | _, .dic ks ds, h => by
    obtain ⟨a, kvs, e, q, l, r⟩ := h
    exact ⟨a, kvs, e, s _ _ q, Rps.mono s (ds := ks) l, Rps.mono s (ds := ds) r⟩
  | _, .xd _ ns ds, h => by
    obtain ⟨a, vs, e, q, l, r⟩ := h
    exact ⟨a, vs, e, s _ _ q, l, Rps.mono s (ds := ds) r⟩
theorem Rps.mono (s : Same F F') : ∀ {vs : List V} {ds : List D}, Rps Z F vs ds → Rps Z F' vs ds
  | [], [], _ => trivial
  | _ :: _, d :: ds, h => ⟨Rp.mono s (d := d) h.1, Rps.mono s (ds := ds) h.2⟩
  | [], _ :: _, h => h
  | _ :: _, [], h => h
end
theorem Rps.length : ∀ {vs : List V} {ds : List D}, Rps Z F vs ds → vs.length = ds.length
  | [], [], _ => rfl
  | _ :: _, _ :: _, h => congrArg (· + 1) (Rps.length h.2)
  | [], _ :: _, h => h.elim
  | _ :: _, [], h => h.elim
theorem Rps.get : ∀ {vs : List V} {ds : List D} {i : Nat} {d : D}, Rps Z F vs ds → ds[i]? = some d → ∃ v, vs[i]? = some v ∧ Rp Z F v d
  | [], [], _, _, _, e => by simp at e
  | v :: vs, d :: ds, 0, _, h, e => by
    have e : d = _ := Option.some.inj e
    subst e
    exact ⟨v, rfl, h.1⟩
  | v :: vs, d :: ds, i + 1, x, h, e => Rps.get (vs := vs) (ds := ds) (i := i) (d := x) h.2 e
  | [], _ :: _, _, _, h, _ => h.elim
  | _ :: _, [], _, _, h, _ => h.elim
theorem Rps.append : ∀ {vs ws : List V} {ds es : List D}, Rps Z F vs ds → Rps Z F ws es → Rps Z F (vs ++ ws) (ds ++ es)
  | [], _, [], _, _, h => h
  | _ :: _, _, _ :: _, _, h, h' => ⟨h.1, Rps.append h.2 h'⟩
  | [], _, _ :: _, _, h, _ => h.elim
  | _ :: _, _, [], _, h, _ => h.elim

/-! ### owned trees stay where their own addresses stay -/
mutual
theorem Own.stay (s : Same F F') : ∀ {v : V} {t : T} {fp : List Addr}, Own Z F H v t fp → (∀ b ∈ fp, H' b = H b) → Own Z F' H' v t fp
  | _, .fz d, _, h, _ => ⟨Rp.mono s h.1, h.2⟩
  | _, .lst ts, _, h, k => by
    obtain ⟨a, vs, fp', e, q, r, rfl⟩ := h
    exact ⟨a, vs, fp', e, (k a (List.mem_cons_self ..)).trans q, Owns.stay s (ts := ts) r fun b hb => k b (List.mem_cons_of_mem _ hb), rfl⟩
  | _, .obj c ns ts, _, h, k => by
    obtain ⟨a, dx, vs, fp', e, q, l, qd, r, rfl⟩ := h
    exact ⟨a, dx, vs, fp', e, (k a (List.mem_cons_self ..)).trans q, l, (k dx (List.mem_cons_of_mem _ (List.mem_cons_self ..))).trans qd, Owns.stay s (ts := ts) r fun b hb => k b (List.mem_cons_of_mem _ (List.mem_cons_of_mem _ hb)), rfl⟩
  | _, .dic ks ts, _, h, k => by
    obtain ⟨a, kvs, fp', e, q, l, r, rfl⟩ := h
    exact ⟨a, kvs, fp', e, (k a (List.mem_cons_self ..)).trans q, Rps.mono s l, Owns.stay s (ts := ts) r fun b hb => k b (List.mem_cons_of_mem _ hb), rfl⟩
theorem Owns.stay (s : Same F F') : ∀ {vs : List V} {ts : List T} {fp : List Addr}, Owns Z F H vs ts fp → (∀ b ∈ fp, H' b = H b) → Owns Z F' H' vs ts fp
  | [], [], _, h, _ => h
  | _ :: _, t :: ts, _, h, k => by
    obtain ⟨f1, f2, h1, h2, rfl⟩ := h
    exact ⟨f1, f2, Own.stay s (t := t) h1 fun b hb => k b (List.mem_append_left _ hb), Owns.stay s (ts := ts) h2 fun b hb => k b (List.mem_append_right _ hb), rfl⟩
  | [], _ :: _, _, h, _ => h
  | _ :: _, [], _, h, _ => h
end
mutual
theorem Own.there : ∀ {v : V} {t : T} {fp : List Addr}, Own Z F H v t fp → ∀ b ∈ fp, ∃ o, H b = some o
  | _, .fz d, _, h, b, hb => by rw [h.2] at hb; cases hb
  | _, .lst ts, _, h, b, hb => by
    obtain ⟨a, vs, fp', e, q, r, rfl⟩ := h
    rcases List.mem_cons.mp hb with rfl | hb
    · exact ⟨_, q⟩
    · exact Owns.there (ts := ts) r b hb
  | _, .obj c ns ts, _, h, b, hb => by
    obtain ⟨a, dx, vs, fp', e, q, l, qd, r, rfl⟩ := h
    rcases List.mem_cons.mp hb with rfl | hb
    · exact ⟨_, q⟩
    rcases List.mem_cons.mp hb with rfl | hb
    · exact ⟨_, qd⟩
    · exact Owns.there (ts := ts) r b hb
  | _, .dic ks ts, _, h, b, hb => by
    obtain ⟨a, kvs, fp', e, q, l, r, rfl⟩ := h
    rcases List.mem_cons.mp hb with rfl | hb
    · exact ⟨_, q⟩
    · exact Owns.there (ts := ts) r b hb
theorem Owns.there : ∀ {vs : List V} {ts : List T} {fp : List Addr}, Owns Z F H vs ts fp → ∀ b ∈ fp, ∃ o, H b = some o
  | [], [], _, h, b, hb => by
    have h : _ = [] := h
    rw [h] at hb; cases hb
  | _ :: _, t :: ts, _, h, b, hb => by
    obtain ⟨f1, f2, h1, h2, rfl⟩ := h
    rcases List.mem_append.mp hb with hb | hb
    · exact Own.there (t := t) h1 b hb
    · exact Owns.there (ts := ts) h2 b hb
  | [], _ :: _, _, h, _, _ => h.elim
  | _ :: _, [], _, h, _, _ => h.elim
end
/-! a tree frozen -/
mutual
theorem Own.frz (s : Same F F') : ∀ {v : V} {t : T} {fp : List Addr}, Own Z F H v t fp → (∀ b ∈ fp, F' b = H b) → Rp Z F' v (frz t)
  | _, .fz d, _, h, _ => Rp.mono s h.1
  | _, .lst ts, _, h, k => by
    obtain ⟨a, vs, fp', e, q, r, rfl⟩ := h
    exact ⟨a, vs, e, SqL.of ((k a (List.mem_cons_self ..)).trans q), Owns.frz s (ts := ts) r fun b hb => k b (List.mem_cons_of_mem _ hb)⟩
  | _, .obj c ns ts, _, h, k => by
    obtain ⟨a, dx, vs, fp', e, q, l, qd, r, rfl⟩ := h
    exact ⟨a, dx, vs, e, (k a (List.mem_cons_self ..)).trans q, l, Owns.frz s (ts := ts) r fun b hb => k b (List.mem_cons_of_mem _ (List.mem_cons_of_mem _ hb))⟩
  | _, .dic ks ts, _, h, k => by
    obtain ⟨a, kvs, fp', e, q, l, r, rfl⟩ := h
    exact ⟨a, kvs, e, (k a (List.mem_cons_self ..)).trans q, Rps.mono s l, Owns.frz s (ts := ts) r fun b hb => k b (List.mem_cons_of_mem _ hb)⟩
theorem Owns.frz (s : Same F F') : ∀ {vs : List V} {ts : List T} {fp : List Addr}, Owns Z F H vs ts fp → (∀ b ∈ fp, F' b = H b) → Rps Z F' vs (frzs ts)
  | [], [], _, _, _ => trivial
  | _ :: _, t :: ts, _, h, k => by
    obtain ⟨f1, f2, h1, h2, rfl⟩ := h
    exact ⟨Own.frz s (t := t) h1 fun b hb => k b (List.mem_append_left _ hb), Owns.frz s (ts := ts) h2 fun b hb => k b (List.mem_append_right _ hb)⟩
  | [], _ :: _, _, h, _ => h
  | _ :: _, [], _, h, _ => h
end
theorem Owns.append : ∀ {vs ws : List V} {ts us : List T} {f g : List Addr}, Owns Z F H vs ts f → Owns Z F H ws us g → Owns Z F H (vs ++ ws) (ts ++ us) (f ++ g)
  | [], _, [], _, _, _, h, h' => by
    have h : _ = [] := h
    rw [h]; exact h'
  | v :: vs, ws, t :: ts, us, _, g, h, h' => by
    obtain ⟨f1, f2, h1, h2, rfl⟩ := h
    exact ⟨f1, f2 ++ g, h1, Owns.append h2 h', List.append_assoc ..⟩
  | [], _, _ :: _, _, _, _, h, _ => h.elim
  | _ :: _, _, [], _, _, _, h, _ => h.elim
theorem Owns.split : ∀ {vs ws : List V} {ts us : List T} {f : List Addr}, vs.length = ts.length → Owns Z F H (vs ++ ws) (ts ++ us) f → ∃ f1 f2, Owns Z F H vs ts f1 ∧ Owns Z F H ws us f2 ∧ f = f1 ++ f2
  | [], _, [], _, f, _, h => ⟨[], f, rfl, h, rfl⟩
  | v :: vs, ws, t :: ts, us, _, l, h => by
    obtain ⟨f1, f2, h1, h2, rfl⟩ := h
    obtain ⟨g1, g2, k1, k2, rfl⟩ := Owns.split (vs := vs) (ts := ts) (Nat.succ.inj l) h2
    exact ⟨f1 ++ g1, g2, ⟨f1, g1, h1, k1, rfl⟩, k2, (List.append_assoc ..).symm⟩
  | [], _, _ :: _, _, _, l, _ => by cases l
  | _ :: _, _, [], _, _, l, _ => by cases l
theorem Owns.length : ∀ {vs : List V} {ts : List T} {f : List Addr}, Owns Z F H vs ts f → vs.length = ts.length
  | [], [], _, _ => rfl
  | _ :: _, _ :: _, _, h => by
    obtain ⟨f1, f2, h1, h2, rfl⟩ := h
    exact congrArg (· + 1) (Owns.length h2)
  | [], _ :: _, _, h => h.elim
  | _ :: _, [], _, h => h.elim
end
end DL

set_option maxHeartbeats 4000000
namespace DL
open PySem PySem.Spec PyProof.Rows L2
/-- roots with their footprint -/
def OwnR (Z : Wd) (F H : Hp) : List (V × T) → List Addr → Prop
  | [], fp => fp = []
  | r :: rs, fp => ∃ f1 f2, Own Z F H r.1 r.2 f1 ∧ OwnR Z F H rs f2 ∧ fp = f1 ++ f2
def Roots (Z : Wd) (H : Hp) (rs : List (V × T)) : Prop := ∃ F fp, Same F H ∧ OwnR Z F H rs fp ∧ fp.Nodup ∧ ∀ p ∈ fp, F p = none
section
variable {Z : Wd} {F F' H H' : Hp}
theorem OwnR.stay (s : Same F F') : ∀ {rs : List (V × T)} {fp : List Addr}, OwnR Z F H rs fp → (∀ b ∈ fp, H' b = H b) → OwnR Z F' H' rs fp
  | [], _, h, _ => h
  | r :: rs, _, h, k => by
    obtain ⟨f1, f2, h1, h2, rfl⟩ := h
    exact ⟨f1, f2, Own.stay s h1 fun b hb => k b (List.mem_append_left _ hb), OwnR.stay s h2 fun b hb => k b (List.mem_append_right _ hb), rfl⟩
theorem OwnR.there : ∀ {rs : List (V × T)} {fp : List Addr}, OwnR Z F H rs fp → ∀ b ∈ fp, ∃ o, H b = some o
  | [], _, h, b, hb => by
    have h : _ = [] := h
    rw [h] at hb; cases hb
  | r :: rs, _, h, b, hb => by
    obtain ⟨f1, f2, h1, h2, rfl⟩ := h
    rcases List.mem_append.mp hb with hb | hb
    · exact Own.there h1 b hb
    · exact OwnR.there h2 b hb
theorem OwnR.append : ∀ {rs qs : List (V × T)} {f g : List Addr}, OwnR Z F H rs f → OwnR Z F H qs g → OwnR Z F H (rs ++ qs) (f ++ g)
  | [], _, _, _, h, h' => by
    have h : _ = [] := h
    rw [h]; exact h'
  | r :: rs, qs, _, g, h, h' => by
    obtain ⟨f1, f2, h1, h2, rfl⟩ := h
    exact ⟨f1, f2 ++ g, h1, OwnR.append h2 h', List.append_assoc ..⟩
theorem OwnR.split : ∀ {rs qs : List (V × T)} {f : List Addr}, OwnR Z F H (rs ++ qs) f → ∃ f1 f2, OwnR Z F H rs f1 ∧ OwnR Z F H qs f2 ∧ f = f1 ++ f2
  | [], _, f, h => ⟨[], f, rfl, h, rfl⟩
  | r :: rs, qs, _, h => by
    obtain ⟨f1, f2, h1, h2, rfl⟩ := h
    obtain ⟨g1, g2, k1, k2, rfl⟩ := OwnR.split (rs := rs) h2
    exact ⟨f1 ++ g1, g2, ⟨f1, g1, h1, k1, rfl⟩, k2, (List.append_assoc ..).symm⟩
theorem OwnR.perm {rs qs : List (V × T)} (p : rs.Perm qs) : ∀ {f : List Addr}, OwnR Z F H rs f → ∃ g, OwnR Z F H qs g ∧ f.Perm g := by
  induction p with
  | nil => exact fun h => ⟨_, h, .refl _⟩
  | cons x _ ih =>
    rintro f ⟨f1, f2, h1, h2, rfl⟩
    obtain ⟨g, h, q⟩ := ih h2
    exact ⟨f1 ++ g, ⟨f1, g, h1, h, rfl⟩, q.append_left f1⟩
  | swap x y l =>
    rintro f ⟨f1, f2, h1, ⟨f3, f4, h3, h4, rfl⟩, rfl⟩
    refine ⟨f3 ++ (f1 ++ f4), ⟨f3, f1 ++ f4, h3, ⟨f1, f4, h1, h4, rfl⟩, rfl⟩, ?_⟩
    rw [← List.append_assoc, ← List.append_assoc]
    exact List.perm_append_comm.append_right f4
  | trans _ _ ih1 ih2 =>
    intro f h
    obtain ⟨g, h1, q1⟩ := ih1 h
    obtain ⟨k, h2, q2⟩ := ih2 h1
    exact ⟨k, h2, q1.trans q2⟩
theorem Roots.perm {rs qs : List (V × T)} (h : Roots Z H rs) (p : rs.Perm qs) : Roots Z H qs := by
  obtain ⟨F, f, s, o, n, d⟩ := h
  obtain ⟨g, o', q⟩ := OwnR.perm p o
  exact ⟨F, g, s, o', q.nodup_iff.mp n, fun b hb => d b (q.mem_iff.mpr hb)⟩
theorem Roots.drop {r : V × T} {rs : List (V × T)} (h : Roots Z H (r :: rs)) : Roots Z H rs := by
  obtain ⟨F, _, s, ⟨f1, f2, _, o, rfl⟩, n, d⟩ := h
  exact ⟨F, f2, s, o, (List.nodup_append.mp n).2.1, fun b hb => d b (List.mem_append_right _ hb)⟩
theorem Roots.dup {v : V} {d : D} {rs : List (V × T)} (h : Roots Z H ((v, .fz d) :: rs)) : Roots Z H ((v, .fz d) :: (v, .fz d) :: rs) := by
  obtain ⟨F, _, s, ⟨f1, f2, o1, o, rfl⟩, n, d⟩ := h
  have e : f1 = [] := o1.2
  subst e
  exact ⟨F, f2, s, ⟨[], f2, o1, ⟨[], f2, o1, o, rfl⟩, rfl⟩, n, d⟩
theorem Roots.freeze {v : V} {t : T} {rs : List (V × T)} (h : Roots Z H ((v, t) :: rs)) : Roots Z H ((v, .fz (frz t)) :: rs) := by
  obtain ⟨F, _, s, ⟨f1, f2, o1, o, rfl⟩, n, d⟩ := h
  have nd := List.nodup_append.mp n
  let F' : Hp := fun b => if b ∈ f1 then H b else F b
  have in1 : ∀ b ∈ f1, F' b = H b := fun b hb => if_pos hb
  have out : ∀ b, b ∉ f1 → F' b = F b := fun b hb => if_neg hb
  have s1 : Same F F' := fun b x e => by
    have nb : b ∉ f1 := fun hb => by
      rw [d b (List.mem_append_left _ hb)] at e
      cases e
    rw [out b nb]; exact e
  refine ⟨F', f2, fun b x e => ?_, ⟨[], f2, ⟨Own.frz s1 o1 in1, rfl⟩, OwnR.stay s1 o fun _ _ => rfl, rfl⟩, nd.2.1, fun b hb => ?_⟩
  · by_cases hb : b ∈ f1
    · rw [in1 b hb] at e; exact e
    · rw [out b hb] at e; exact s b x e
  · rw [out b fun h1 => nd.2.2 b h1 b hb rfl]
    exact d b (List.mem_append_right _ hb)
theorem same_new {p : Addr} {o : HO} (h : H p = none) : Same H (upd H p o) := fun b x e => by
  rw [upd_ne (ne_of_none e h)]; exact e
/-- a new object besides -/
theorem Roots.other {p : Addr} {o : HO} {rs : List (V × T)} (h : Roots Z H rs) (hp : H p = none) : Roots Z (upd H p o) rs := by
  obtain ⟨F, f, s, ow, n, d⟩ := h
  refine ⟨F, f, s.trans (same_new hp), OwnR.stay (Same.refl F) ow fun b hb => ?_, n, d⟩
  obtain ⟨x, e⟩ := ow.there b hb
  exact upd_ne (ne_of_none e hp)
theorem OwnR.of : ∀ {vs : List V} {ts : List T} {f : List Addr}, vs.length = ts.length → OwnR Z F H (vs.zip ts) f → Owns Z F H vs ts f
  | [], [], _, _, h => h
  | v :: vs, t :: ts, _, l, h => by
    obtain ⟨f1, f2, h1, h2, e⟩ := h
    exact ⟨f1, f2, h1, OwnR.of (Nat.succ.inj l) h2, e⟩
  | [], _ :: _, _, l, _ => by cases l
  | _ :: _, [], _, l, _ => by cases l
theorem Owns.to : ∀ {vs : List V} {ts : List T} {f : List Addr}, Owns Z F H vs ts f → OwnR Z F H (vs.zip ts) f
  | [], [], _, h => h
  | v :: vs, t :: ts, _, h => by
    obtain ⟨f1, f2, h1, h2, e⟩ := h
    exact ⟨f1, f2, h1, Owns.to h2, e⟩
  | [], _ :: _, _, h => h.elim
  | _ :: _, [], _, h => h.elim
/-- a new list of the roots vs, ts -/
theorem Roots.newL {p : Addr} {vs : List V} {ts : List T} {rs : List (V × T)} (hl : vs.length = ts.length) (h : Roots Z H (vs.zip ts ++ rs)) (hp : H p = none) : Roots Z (upd H p (.lst vs)) ((.ref p, .lst ts) :: rs) := by
  obtain ⟨F, _, s, ow, n, d⟩ := h
  obtain ⟨f1, f2, o1, o2, rfl⟩ := OwnR.split ow
  have ne : ∀ b ∈ f1 ++ f2, b ≠ p := fun b hb => by
    obtain ⟨x, e⟩ := ow.there b hb
    exact ne_of_none e hp
  have Fp : F p = none := s.free hp
  refine ⟨F, p :: (f1 ++ f2), s.trans (same_new hp), ⟨p :: f1, f2, ⟨p, vs, f1, rfl, upd_same, ?_, rfl⟩, ?_, rfl⟩, List.nodup_cons.mpr ⟨fun hb => ne p hb rfl, n⟩, fun b hb => ?_⟩
  · exact Owns.stay (Same.refl F) (OwnR.of hl o1) fun b hb => upd_ne (ne b (List.mem_append_left _ hb))
  · exact OwnR.stay (Same.refl F) o2 fun b hb => upd_ne (ne b (List.mem_append_right _ hb))
  · rcases List.mem_cons.mp hb with rfl | hb
    · exact Fp
    · exact d b hb
theorem rps_of : ∀ {vs : List V} {ds : List D} {f : List Addr}, Owns Z F H vs (ds.map T.fz) f → Rps Z F vs ds ∧ f = []
  | [], [], _, h => ⟨trivial, h⟩
  | v :: vs, d :: ds, _, h => by
    obtain ⟨f1, f2, h1, h2, rfl⟩ := h
    obtain ⟨r, e⟩ := rps_of (ds := ds) h2
    have e1 : f1 = [] := h1.2
    rw [e, e1]
    exact ⟨⟨h1.1, r⟩, rfl⟩
  | [], _ :: _, _, h => h.elim
  | _ :: _, [], _, h => h.elim
/-- a new tuple of frozen roots -/
theorem Roots.newT {p : Addr} {vs : List V} {ds : List D} {rs : List (V × T)} (hl : vs.length = ds.length) (h : Roots Z H (vs.zip (ds.map T.fz) ++ rs)) (hp : H p = none) : Roots Z (upd H p (.tup vs)) ((.ref p, .fz (.tup ds)) :: rs) := by
  obtain ⟨F, _, s, ow, n, d⟩ := h
  obtain ⟨f1, f2, o1, o2, rfl⟩ := OwnR.split ow
  have Fp : F p = none := s.free hp
  obtain ⟨r, e⟩ := rps_of (OwnR.of (by rw [List.length_map]; exact hl) o1)
  subst e
  have ne : ∀ b ∈ f2, b ≠ p := fun b hb => by
    obtain ⟨x, e⟩ := o2.there b hb
    exact ne_of_none e hp
  have sF : Same F (upd F p (.tup vs)) := same_new Fp
  refine ⟨upd F p (.tup vs), f2, fun b x e => ?_, ⟨[], f2, ⟨⟨p, vs, rfl, SqT.of upd_same, Rps.mono sF r⟩, rfl⟩, OwnR.stay sF o2 fun b hb => upd_ne (ne b hb), rfl⟩, n, fun b hb => ?_⟩
  · by_cases hb : b = p
    · subst hb
      rw [upd_same] at e ⊢
      exact e
    · rw [upd_ne hb] at e ⊢
      exact s b x e
  · rw [upd_ne (ne b hb)]
    exact d b hb
/-- a frozen root is there -/
theorem Roots.fz {v : V} {d : D} {rs : List (V × T)} (h : Roots Z H ((v, .fz d) :: rs)) : Rp Z H v d := by
  obtain ⟨F, _, s, ⟨f1, f2, o1, o, rfl⟩, n, _⟩ := h
  exact Rp.mono s o1.1
theorem Roots.int {v : V} {i : Int} {rs : List (V × T)} (h : Roots Z H ((v, .fz (.int i)) :: rs)) : v = .int i := h.fz
/-- a root of data that needs no heap -/
theorem Roots.add {v : V} {d : D} {rs : List (V × T)} (h : Roots Z H rs) (k : ∀ F, Rp Z F v d) : Roots Z H ((v, .fz d) :: rs) := by
  obtain ⟨F, f, s, o, n, e⟩ := h
  exact ⟨F, f, s, ⟨[], f, ⟨k F, rfl⟩, o, rfl⟩, n, e⟩
/-- an owned list changed: its new items vs, ts come from the roots -/
theorem Roots.putL {p : Addr} {ws vs : List V} {us ts : List T} {rs qs : List (V × T)} (h : Roots Z H ((.ref p, .lst us) :: rs)) (hw : H p = some (.lst ws)) (hl : vs.length = ts.length)
    (hp : (ws.zip us ++ rs).Perm (vs.zip ts ++ qs)) : Roots Z (upd H p (.lst vs)) ((.ref p, .lst ts) :: qs) := by
  obtain ⟨F, _, s, ⟨_, f2, ⟨a, ws', f1, e1, e2, o1, rfl⟩, o2, rfl⟩, n, d⟩ := h
  cases e1
  rw [hw] at e2
  cases e2
  obtain ⟨g, og, pg⟩ := OwnR.perm hp (o1.to.append o2)
  have n' : (p :: (f1 ++ f2)).Nodup := n
  obtain ⟨np, nn⟩ := List.nodup_cons.mp n'
  have gp : ∀ b ∈ g, b ≠ p := fun b hb e => by
    subst e
    exact np (pg.mem_iff.mpr hb)
  have Fp : F p = none := d p (List.mem_append_left _ (List.mem_cons_self ..))
  obtain ⟨g1, g2, k1, k2, rfl⟩ := OwnR.split og
  refine ⟨F, p :: (g1 ++ g2), fun b x e => ?_, ⟨p :: g1, g2, ⟨p, vs, g1, rfl, upd_same, Owns.stay (Same.refl F) (OwnR.of hl k1) fun b hb => upd_ne (gp b (List.mem_append_left _ hb)), rfl⟩, OwnR.stay (Same.refl F) k2 fun b hb => upd_ne (gp b (List.mem_append_right _ hb)), rfl⟩,
    List.nodup_cons.mpr ⟨fun hb => gp p hb rfl, pg.nodup_iff.mp nn⟩, fun b hb => ?_⟩
  · rw [upd_ne (ne_of_none e Fp)]
    exact s b x e
  · rcases List.mem_cons.mp hb with rfl | hb
    · exact Fp
    · have hb' := pg.mem_iff.mpr hb
      exact d b (List.mem_cons_of_mem _ hb')
theorem Roots.lst {v : V} {ts : List T} {rs : List (V × T)} (h : Roots Z H ((v, .lst ts) :: rs)) : ∃ p vs, v = .ref p ∧ H p = some (.lst vs) ∧ vs.length = ts.length := by
  obtain ⟨F, _, s, ⟨_, f2, ⟨a, ws', f1, e1, e2, o1, rfl⟩, o2, rfl⟩, n, d⟩ := h
  exact ⟨a, ws', e1, e2, o1.length⟩
end

/-! ### slots -/
abbrev Env := List (Option T)
def slots : L2.St → Env → List (V × T)
  | some v :: σ, some t :: env => (v, t) :: slots σ env
  | _ :: σ, _ :: env => slots σ env
  | _, _ => []
def Fit (σ : L2.St) (env : Env) : Prop := σ.length = env.length ∧ ∀ (i : Nat) (t : T), env[i]? = some (some t) → ∃ v, σ[i]? = some (some v)
theorem slots_none : ∀ (σ : L2.St) (env : Env) (i : Nat) (x : Option V), slots (σ.set i x) (env.set i none) = slots σ (env.set i none)
  | [], _, _, _ => rfl
  | _ :: _, [], _, _ => by simp [slots]
  | o :: σ, e :: env, 0, x => by
    cases o <;> cases x <;> rfl
  | o :: σ, e :: env, i + 1, x => by
    have ih := slots_none σ env i x
    cases o <;> cases e <;> simp [slots, ih]
theorem slots_set : ∀ {σ : L2.St} {env : Env} {i : Nat} {v : V} {t : T}, i < σ.length → i < env.length → (slots (σ.set i (some v)) (env.set i (some t))).Perm ((v, t) :: slots σ (env.set i none))
  | [], _, _, _, _, h, _ => by simp at h
  | _ :: _, [], _, _, _, _, h => by simp at h
  | o :: σ, e :: env, 0, v, t, _, _ => by cases o <;> exact .refl _
  | o :: σ, e :: env, i + 1, v, t, h, h' => by
    have ih := slots_set (σ := σ) (env := env) (i := i) (v := v) (t := t) (by simpa using h) (by simpa using h')
    cases o <;> cases e <;> first | exact ih | exact (ih.cons _).trans (.swap ..)
theorem set_self {α : Type} : ∀ {l : List α} {i : Nat} {a : α}, l[i]? = some a → l.set i a = l
  | [], _, _, _ => rfl
  | x :: l, 0, a, h => by
    have e : x = a := Option.some.inj h
    rw [e]; rfl
  | x :: l, i + 1, a, h => by
    show x :: l.set i a = x :: l
    rw [set_self (l := l) h]
theorem lt_of_get {α : Type} {l : List α} {i : Nat} {a : α} (h : l[i]? = some a) : i < l.length := (List.getElem?_eq_some_iff.mp h).1
theorem slots_get {σ : L2.St} {env : Env} {i : Nat} {v : V} {t : T} (h : σ[i]? = some (some v)) (h' : env[i]? = some (some t)) : (slots σ env).Perm ((v, t) :: slots σ (env.set i none)) := by
  have p := slots_set (v := v) (t := t) (lt_of_get h) (lt_of_get h')
  rw [set_self h, set_self h'] at p
  exact p
end DL

set_option maxHeartbeats 4000000
namespace DL
open PySem PySem.Spec PyProof.Rows L2
/-- what is fixed in a def's body: the world, the slots whose values stay (parameters that are changed in place) -/
structure Sg where
  Z : Wd
  io : List Nat
  s0 : L2.St
  n : Nat
structure Ex where
  c : Nat
  d : Option (List Str × List D)
inductive R (α : Type) where
  | ok (a : α) (env : Env) | ex (x : Ex) (env : Env) | no
@[simp] def R.bind {α β : Type} (r : R α) (k : α → Env → R β) : R β := match r with
  | .ok a env => k a env
  | .ex x env => .ex x env
  | .no => .no
abbrev M (α : Type) := Env → R α
def Rel (G : Sg) (H : Hp) (σ : L2.St) (env : Env) (ex : List (V × T)) : Prop :=
  Fit σ env ∧ (env.length = G.n ∧ ∀ i ∈ G.io, σ[i]? = G.s0[i]?) ∧ Roots G.Z H (slots σ env ++ ex)
section
variable {G : Sg} {H H' : Hp} {σ : L2.St} {env : Env} {ex l : List (V × T)}
theorem Rel.out (h : Rel G H σ env (l ++ ex)) : Roots G.Z H (l ++ (slots σ env ++ ex)) := by
  refine h.2.2.perm ?_
  rw [← List.append_assoc, ← List.append_assoc]
  exact List.perm_append_comm.append_right ex
theorem Rel.back {ex0 : List (V × T)} (h : Rel G H σ env ex0) (r : Roots G.Z H' (l ++ (slots σ env ++ ex))) : Rel G H' σ env (l ++ ex) := by
  refine ⟨h.1, h.2.1, r.perm ?_⟩
  rw [← List.append_assoc, ← List.append_assoc]
  exact List.perm_append_comm.append_right ex
theorem Rel.out1 {r : V × T} (h : Rel G H σ env (r :: ex)) : Roots G.Z H (r :: (slots σ env ++ ex)) := Rel.out (l := [r]) h
theorem Rel.back1 {r : V × T} {ex0 : List (V × T)} (h : Rel G H σ env ex0) (q : Roots G.Z H' (r :: (slots σ env ++ ex))) : Rel G H' σ env (r :: ex) := Rel.back (l := [r]) h q
theorem Rel.drop {r : V × T} (h : Rel G H σ env (r :: ex)) : Rel G H σ env ex := Rel.back (l := []) h h.out1.drop
theorem Rel.drops : ∀ {l : List (V × T)}, Rel G H σ env (l ++ ex) → Rel G H σ env ex
  | [], h => h
  | _ :: l, h => Rel.drops (l := l) h.drop
theorem Rel.freeze {v : V} {t : T} (h : Rel G H σ env ((v, t) :: ex)) : Rel G H σ env ((v, .fz (frz t)) :: ex) := h.back1 h.out1.freeze
theorem Rel.perm {ex' : List (V × T)} (h : Rel G H σ env ex) (p : ex.Perm ex') : Rel G H σ env ex' := ⟨h.1, h.2.1, h.2.2.perm (p.append_left _)⟩
theorem fit_set {v : V} {t : Option T} {i : Nat} (f : Fit σ env) : Fit (σ.set i (some v)) (env.set i t) := by
  refine ⟨by simpa using f.1, fun j u e => ?_⟩
  by_cases h : i = j
  · subst h
    by_cases hl : i < env.length
    · exact ⟨v, List.getElem?_set_self (by rw [f.1]; exact hl)⟩
    · rw [List.getElem?_eq_none (by simpa using hl)] at e
      cases e
  · rw [List.getElem?_set_ne h] at e ⊢
    exact f.2 j u e
theorem fit_none {i : Nat} (f : Fit σ env) : Fit σ (env.set i none) := by
  refine ⟨by simpa using f.1, fun j u e => ?_⟩
  by_cases h : i = j
  · subst h
    by_cases hl : i < env.length
    · rw [List.getElem?_set_self hl] at e
      cases e
    · rw [List.getElem?_eq_none (by simpa using hl)] at e
      cases e
  · rw [List.getElem?_set_ne h] at e
    exact f.2 j u e
/-- the tree of slot i taken out -/
theorem Rel.take {i : Nat} {t : T} (h : Rel G H σ env ex) (e : env[i]? = some (some t)) : ∃ v, σ[i]? = some (some v) ∧ Rel G H σ (env.set i none) ((v, t) :: ex) := by
  obtain ⟨v, ev⟩ := h.1.2 i t e
  refine ⟨v, ev, fit_none h.1, ⟨by simpa using h.2.1.1, h.2.1.2⟩, ?_⟩
  refine h.2.2.perm (((slots_get ev e).append_right ex).trans ?_)
  exact List.perm_middle.symm
theorem Rel.forget {i : Nat} (h : Rel G H σ env ex) : Rel G H σ (env.set i none) ex := by
  cases e : env[i]? with
  | none =>
    rw [List.set_eq_of_length_le (List.getElem?_eq_none_iff.mp e)]
    exact h
  | some o =>
    cases o with
    | none => rw [set_self e]; exact h
    | some t =>
      obtain ⟨v, _, r⟩ := h.take e
      exact r.drop
/-- a tree put into slot i, which holds its value -/
theorem Rel.put {i : Nat} {v : V} {t : T} (h : Rel G H σ env ((v, t) :: ex)) (e : σ[i]? = some (some v)) : Rel G H σ (env.set i (some t)) ex := by
  have hl := lt_of_get e
  have he : i < env.length := by rw [← h.1.1]; exact hl
  have f : Fit σ (env.set i (some t)) := by
    have f := fit_set (v := v) (t := some t) (i := i) h.1
    rw [set_self e] at f
    exact f
  have h2 := h.forget (i := i)
  refine ⟨f, ⟨by simpa using h.2.1.1, h.2.1.2⟩, h2.2.2.perm ?_⟩
  have p := slots_set (v := v) (t := t) hl he
  rw [set_self e] at p
  exact List.perm_middle.trans (p.symm.append_right ex)
/-- a value stored -/
theorem Rel.store {i : Nat} {v : V} {t : T} (h : Rel G H σ env ((v, t) :: ex)) (hn : i < G.n) (ni : i ∉ G.io) : Rel G H (σ.set i (some v)) (env.set i (some t)) ex := by
  have hi : i < env.length := by rw [h.2.1.1]; exact hn
  have he : i < σ.length := by rw [h.1.1]; exact hi
  have h2 := h.forget (i := i)
  refine ⟨fit_set h.1, ⟨by simpa using h.2.1.1, fun j hj => ?_⟩, h2.2.2.perm ?_⟩
  · rw [List.getElem?_set_ne (fun z => ni (by rw [z]; exact hj))]
    exact h.2.1.2 j hj
  · exact List.perm_middle.trans ((slots_set (v := v) (t := t) he hi).symm.append_right ex)
end

/-! ### wishes -/
def XOk (G : Sg) (W : WX) (σ : L2.St) (ex : List (V × T)) (env : Env) (x : Ex) : Prop := match x.d with
  | none => ∀ H', Rel G H' σ env ex → W (.ref (G.Z.C x.c)) none σ H'
  | some p => ∀ H' dx, Rel G H' σ env ((.ref dx, .fz (.xd x.c p.1 p.2)) :: ex) → W (.ref (G.Z.C x.c)) (some dx) σ H'
theorem XOk.more {G : Sg} {W : WX} {σ : L2.St} {ex : List (V × T)} {env : Env} {x : Ex} (h : XOk G W σ ex env x) (l : List (V × T)) : XOk G W σ (l ++ ex) env x := by
  unfold XOk at h ⊢
  cases e : x.d with
  | none =>
    rw [e] at h
    exact fun H' r => h H' r.drops
  | some p =>
    rw [e] at h
    refine fun H' dx r => h H' dx ?_
    have r2 : Rel G H' σ env (l ++ ((.ref dx, .fz (.xd x.c p.1 p.2)) :: ex)) := r.perm List.perm_middle.symm
    exact r2.drops
def Aft {α : Type} (xw : Env → Ex → Prop) (k : α → Env → Prop) : R α → Prop
  | .ok a e => k a e
  | .ex x e => xw e x
  | .no => False
def rdE (G : Sg) (W : WX) (f : M T) : TE := fun σ H Q => ∃ env ex, Rel G H σ env ex ∧ Aft (XOk G W σ ex) (fun t e => ∀ H' v, Rel G H' σ e ((v, t) :: ex) → Q v H') (f env)
def rdT (G : Sg) (W : WX) (f : M Bool) : TT := fun σ H Q => ∃ env ex, Rel G H σ env ex ∧ Aft (XOk G W σ ex) (fun b e => ∀ H', Rel G H' σ e ex → Q b H') (f env)
/-- arguments: src tells which are slots handed over to be changed -/
def rdA (G : Sg) (W : WX) (src : List (Option Nat)) (f : M (List T)) : TA := fun σ H Q => ∃ env ex, Rel G H σ env ex ∧
  Aft (XOk G W σ ex) (fun ts e => ∀ H' vs, vs.length = ts.length → src.length = ts.length → (∀ (k j : Nat), src[k]? = some (some j) → ∃ v, vs[k]? = some v ∧ σ[j]? = some (some v)) → Rel G H' σ e (vs.zip ts ++ ex) → Q vs H') (f env)
structure Good (X : Cx) (G : Sg) (W : WX) : Prop where
  hK : G.Z.K = X.K
  tk : Takes X W
  calm : X.calm = true
  nd : X.N.Nodup
  own : PassesOwn (model X.prog X.w) X.A X.env X.xe
def DE (X : Cx) (G : Sg) (W : WX) (e : Expr) (f : M T) : Prop := Good X G W → PE X e (rdE G W f)
def DT (X : Cx) (G : Sg) (W : WX) (e : Expr) (f : M Bool) : Prop := Good X G W → PT X e (rdT G W f)
def DA (X : Cx) (G : Sg) (W : WX) (es : List Expr) (src : List (Option Nat)) (f : M (List T)) : Prop := Good X G W → PA X es (rdA G W src f)
theorem _root_.L2.PE.imp {X : Cx} {e : Expr} {t u : TE} (h : PE X e t) (k : ∀ σ H Q, u σ H Q → t σ H Q) : PE X e u := ⟨fun pins s σ H Q I q => h.run pins s σ H Q I (k σ H Q q)⟩
theorem _root_.L2.PT.imp {X : Cx} {e : Expr} {t u : TT} (h : PT X e t) (k : ∀ σ H Q, u σ H Q → t σ H Q) : PT X e u := ⟨fun pins s σ H Q I q => h.run pins s σ H Q I (k σ H Q q)⟩
theorem _root_.L2.PA.imp {X : Cx} {e : List Expr} {t u : TA} (h : PA X e t) (k : ∀ σ H Q, u σ H Q → t σ H Q) : PA X e u := ⟨fun pos pins s σ H Q I q => h.run pos pins s σ H Q I (k σ H Q q)⟩
theorem _root_.L2.PS.imp {X : Cx} {e : Stmt} {t u : TS} (h : PS X e t) (k : ∀ D σ H, u D σ H → t D σ H) : PS X e u := ⟨fun pins s σ H D I q => h.run pins s σ H D I (k D σ H q)⟩
theorem _root_.L2.PSs.imp {X : Cx} {e : List Stmt} {t u : TS} (h : PSs X e t) (k : ∀ D σ H, u D σ H → t D σ H) : PSs X e u := ⟨fun pins s σ H D I q => h.run pins s σ H D I (k D σ H q)⟩

section
variable {X : Cx} {G : Sg} {W : WX} {a b c : Expr} {fa fb fc : M T} {pos : Pos}
/-! ### names, constants -/
/-- the i-th slot's value, frozen from now on -/
@[simp] def fVar (i : Nat) (env : Env) : R T := match env[i]? with
  | some (some t) => .ok (.fz (frz t)) (env.set i (some (.fz (frz t))))
  | _ => .no
theorem de_var {i : Nat} {x : Str} (hN : X.N[i]? = some x) (hv : Vis X.env.scope x) (hd : (x == ("__debug__" : Str)) = false := by decide) (hcd : (x == ("__classdict__" : Str)) = false := by decide) : DE X G W (.Name x pos) (fVar i) := fun g =>
  (pe_var hN hv hd hcd).imp fun σ H Q ⟨env, ex, r, h⟩ => by
    unfold fVar at h
    split at h
    · rename_i t e
      obtain ⟨v, ev, r1⟩ := r.take e
      have r2 : Rel G H σ (env.set i none) ((v, .fz (frz t)) :: (v, .fz (frz t)) :: ex) := r1.freeze.back (l := [(v, .fz (frz t)), (v, .fz (frz t))]) r1.freeze.out1.dup
      have r3 := (r2.perm (.swap ..)).put ev
      rw [List.set_set] at r3
      exact ⟨v, ev, h H v r3⟩
    · exact h.elim
@[simp] def fC (d : D) (env : Env) : R T := .ok (.fz d) env
theorem de_const {v : V} {d : D} {e : Expr} (h : PE X e (tC v)) (k : ∀ F, Rp G.Z F v d) : DE X G W e (fC d) := fun g =>
  h.imp fun σ H Q ⟨env, ex, r, h⟩ => h H v (r.back1 (Roots.add r.2.2 k))
theorem de_int {i : Int} {j pos} : DE X G W (.Constant (.int i) j pos) (fC (.int i)) := de_const pe_int fun _ => rfl
theorem de_bl {i : Bool} {j pos} : DE X G W (.Constant (.bool i) j pos) (fC (.bl i)) := de_const pe_bl fun _ => rfl
theorem de_str {i : Str} {j pos} : DE X G W (.Constant (.str i) j pos) (fC (.str i)) := de_const pe_str fun _ => rfl
theorem de_non {j pos} : DE X G W (.Constant .none j pos) (fC .non) := de_const pe_non fun _ => rfl

/-! ### operators -/
/-- a two-place operation on data -/
def OpD (X : Cx) (Z : Wd) (f : Value → Value → Sem Value) (g : D → D → Option T) : Prop := ∃ r, OpR X f r ∧ ∀ (H : Hp) (rs : List (V × T)) (v1 v2 : V) (d1 d2 : D) (t : T) (Q : VK),
  Roots Z H ((v2, .fz d2) :: (v1, .fz d1) :: rs) → g d1 d2 = some t → (∀ H' v, Roots Z H' ((v, t) :: rs) → Q v H') → r v1 v2 H Q
@[simp] def ofO (env : Env) : Option T → R T
  | some t => .ok t env
  | none => .no
@[simp] def fBin (g : D → D → Option T) (fa fb : M T) (env : Env) : R T := (fa env).bind fun a e1 => (fb e1).bind fun b e2 => ofO e2 (g (frz a) (frz b))
theorem rd_bin {g : D → D → Option T} {r : R2} (hr : ∀ (H : Hp) (rs : List (V × T)) (v1 v2 : V) (d1 d2 : D) (t : T) (Q : VK),
    Roots G.Z H ((v2, .fz d2) :: (v1, .fz d1) :: rs) → g d1 d2 = some t → (∀ H' v, Roots G.Z H' ((v, t) :: rs) → Q v H') → r v1 v2 H Q)
    (σ : L2.St) (H : Hp) (Q : VK) (h : rdE G W (fBin g fa fb) σ H Q) : tOp r (rdE G W fa) (rdE G W fb) σ H Q := by
  obtain ⟨env, ex, rel, h⟩ := h
  refine ⟨env, ex, rel, ?_⟩
  unfold fBin at h
  cases e1 : fa env with
  | no => rw [e1] at h; exact h
  | ex x e => rw [e1] at h; exact h
  | ok t1 e =>
    rw [e1] at h
    intro H1 v1 r1
    refine ⟨e, _, r1, ?_⟩
    have h : Aft (XOk G W σ ex) _ ((fb e).bind _) := h
    cases e2 : fb e with
    | no => rw [e2] at h; exact h
    | ex x e' => rw [e2] at h; exact XOk.more (show XOk G W σ ex e' x from h) [_]
    | ok t2 e' =>
      rw [e2] at h
      intro H2 v2 r2
      have h : Aft (XOk G W σ ex) _ (ofO e' (g (frz t1) (frz t2))) := h
      cases e3 : g (frz t1) (frz t2) with
      | none => rw [e3] at h; exact h.elim
      | some t =>
        rw [e3] at h
        have r3 : Rel G H2 σ e' ((v2, .fz (frz t2)) :: (v1, .fz (frz t1)) :: ex) := (((r2.freeze).perm (.swap ..)).freeze).perm (.swap ..)
        have ro := Rel.out (l := [(v2, .fz (frz t2)), (v1, .fz (frz t1))]) r3
        exact hr H2 _ v1 v2 _ _ t Q ro e3 fun H' v q => h H' v (r3.back1 q)
theorem de_op {op : Operator} {g : D → D → Option T} (ho : OpD X G.Z (binaryOp op) g) (ha : DE X G W a fa) (hb : DE X G W b fb) : DE X G W (.BinOp a op b pos) (fBin g fa fb) := fun gd => by
  obtain ⟨r, h1, h2⟩ := ho
  exact (pe_op h1 (ha gd) (hb gd)).imp (rd_bin h2)
theorem de_cmp {op : CmpOp} {g : D → D → Option T} (ho : OpD X G.Z (compareOp op) g) (ha : DE X G W a fa) (hb : DE X G W b fb) (h1 : behindInMarks op b = false := by first | exact nomark _ | rfl) : DE X G W (.Compare a [op] [b] pos) (fBin g fa fb) := fun gd => by
  obtain ⟨r, h2, h3⟩ := ho
  exact (pe_cmpR h2 (ha gd) (hb gd) h1).imp (rd_bin h3)
end
end DL

set_option maxHeartbeats 4000000
namespace DL
open PySem PySem.Spec PyProof.Rows L2
section
variable {X : Cx} {G : Sg} {W : WX} {a b c : Expr} {fa fb fc : M T} {ga gb gc : M Bool} {pos : Pos}
/-! ### one step behind an expression -/
theorem rd_then {α : Type} {f : M T} {k : T → M α} {σ : L2.St} {ex : List (V × T)} {env : Env} {H : Hp} {P : α → Env → Prop} {Q : VK} (r : Rel G H σ env ex) (h : Aft (XOk G W σ ex) P ((f env).bind k))
    (hk : ∀ H' v t e, Rel G H' σ e ((v, t) :: ex) → Aft (XOk G W σ ex) P (k t e) → Q v H') : rdE G W f σ H Q := by
  refine ⟨env, ex, r, ?_⟩
  cases e1 : f env with
  | no => rw [e1] at h; exact h
  | ex x e => rw [e1] at h; exact h
  | ok t e => rw [e1] at h; exact fun H' v r' => hk H' v t e r' h
theorem rd_thenT {α : Type} {f : M Bool} {k : Bool → M α} {σ : L2.St} {ex : List (V × T)} {env : Env} {H : Hp} {P : α → Env → Prop} {Q : Bool → Hp → Prop} (r : Rel G H σ env ex) (h : Aft (XOk G W σ ex) P ((f env).bind k))
    (hk : ∀ H' v e, Rel G H' σ e ex → Aft (XOk G W σ ex) P (k v e) → Q v H') : rdT G W f σ H Q := by
  refine ⟨env, ex, r, ?_⟩
  cases e1 : f env with
  | no => rw [e1] at h; exact h
  | ex x e => rw [e1] at h; exact h
  | ok t e => rw [e1] at h; exact fun H' r' => hk H' t e r' h
theorem aft_more {α : Type} {σ : L2.St} {ex l : List (V × T)} {P P' : α → Env → Prop} {r : R α} (h : Aft (XOk G W σ ex) P r) (k : ∀ a e, P a e → P' a e) : Aft (XOk G W σ (l ++ ex)) P' r := by
  cases r with
  | no => exact h
  | ex x e => exact XOk.more (show XOk G W σ ex e x from h) l
  | ok t e => exact k t e h
/-! ### tests -/
@[simp] def truD : D → Option Bool
  | .non => some false
  | .bl b => some b
  | .int i => some (i != 0)
  | .str y => if y.length ≤ sizeLine then some ((y.length : Int) != 0) else none
  | .lst xs => some (!xs.isEmpty)
  | .tup xs => some (!xs.isEmpty)
  | .dic ks _ => some (!ks.isEmpty)
  | _ => none
@[simp] def ofB (env : Env) : Option Bool → R Bool
  | some t => .ok t env
  | none => .no
@[simp] def fTest (f : M T) (env : Env) : R Bool := (f env).bind fun t e => ofB e (truD (frz t))
theorem isEmpty_len {α β : Type} {xs : List α} {ys : List β} (h : xs.length = ys.length) : xs.isEmpty = ys.isEmpty := by
  cases xs <;> cases ys <;> first | rfl | cases h
theorem truD_ok {Z : Wd} {H : Hp} {v : V} {d : D} {b : Bool} (r : Rp Z H v d) (h : truD d = some b) : TruV Z.K v H b := by
  cases d with
  | non => cases r; exact (Option.some.inj h).symm
  | bl => cases r; exact (Option.some.inj h).symm
  | int => cases r; exact (Option.some.inj h).symm
  | str y =>
    cases r
    have h : (if y.length ≤ sizeLine then some ((y.length : Int) != 0) else none) = some b := h
    split at h
    · rename_i hl
      exact ⟨hl, (Option.some.inj h).symm⟩
    · cases h
  | lst xs =>
    obtain ⟨p, vs, rfl, q, r⟩ := r
    exact .inl ⟨vs, q, by rw [isEmpty_len r.length]; exact (Option.some.inj h).symm⟩
  | tup xs =>
    obtain ⟨p, vs, rfl, q, r⟩ := r
    exact .inr (.inl ⟨vs, q, by rw [isEmpty_len r.length]; exact (Option.some.inj h).symm⟩)
  | dic ks xs =>
    obtain ⟨p, kvs, rfl, q, r, _⟩ := r
    refine .inr (.inr ⟨kvs, q, ?_⟩)
    have e := r.length
    rw [List.length_map] at e
    rw [isEmpty_len e]
    exact (Option.some.inj h).symm
  | _ => cases h
theorem dt_val (ha : DE X G W a fa) (he : ∀ whole, isTrue a X.env whole = (do let v ← whole; standAt a.pos; holding [v] (truthy v)) := by intro _; rfl) : DT X G W a (fTest fa) := fun g =>
  (pt_truth (ha g) he).imp fun σ H Q ⟨env, ex, r, h⟩ => rd_then r h fun H' v t e r' h' => by
    cases e1 : truD (frz t) with
    | none => rw [e1] at h'; exact h'.elim
    | some b =>
      rw [e1] at h'
      exact ⟨b, by rw [← g.hK]; exact truD_ok r'.freeze.out1.fz e1, h' H' r'.drop⟩
/-- a comparison as a test -/
@[simp] def fTestB (f : M T) (env : Env) : R Bool := (f env).bind fun t e => match t with | .fz (.bl b) => .ok b e | _ => .no
theorem dt_cmp {op : CmpOp} {g : D → D → Option T} (ho : OpD X G.Z (compareOp op) g) (ha : DE X G W a fa) (hb : DE X G W b fb) (h1 : behindInMarks op b = false := by first | exact nomark _ | rfl) : DT X G W (.Compare a [op] [b] pos) (fTestB (fBin g fa fb)) := fun gd => by
  obtain ⟨r, h2, h3⟩ := ho
  refine (pt_cmpR h2 (ha gd) (hb gd) h1).imp fun σ H Q ⟨env, ex, rel, h⟩ => ?_
  refine rd_bin h3 σ H _ (rd_then rel h fun H' v t e r' h' => ?_)
  split at h'
  · rename_i k
    have ev : v = .bl k := r'.out1.fz
    exact ⟨k, ev, h' H' r'.drop⟩
  · exact h'.elim
@[simp] def fAnd (f g : M Bool) (env : Env) : R Bool := (f env).bind fun b e => if b = true then g e else .ok false e
@[simp] def fOr (f g : M Bool) (env : Env) : R Bool := (f env).bind fun b e => if b = true then .ok true e else g e
@[simp] def fNot (f : M Bool) (env : Env) : R Bool := (f env).bind fun b e => .ok (!b) e
def DW (X : Cx) (G : Sg) (W : WX) (e : Expr) (f : M Bool) : Prop := Good X G W → PW X e (rdT G W f)
theorem _root_.L2.PW.imp {X : Cx} {e : Expr} {t u : TT} (h : PW X e t) (k : ∀ σ H Q, u σ H Q → t σ H Q) : PW X e u := ⟨fun wh pins s σ H Q I q => h.run wh pins s σ H Q I (k σ H Q q)⟩
theorem DW.dt (h : DW X G W a ga) : DT X G W a ga := fun g => (h g).pt
variable {rest : List Expr}
theorem dw_and1 (ha : DT X G W a ga) : DW X G W (.BoolOp .And [a] pos) ga := fun g => pw_and1 (ha g)
theorem dw_or1 (ha : DT X G W a ga) : DW X G W (.BoolOp .Or [a] pos) ga := fun g => pw_or1 (ha g)
theorem dw_and (ha : DT X G W a ga) (hb : DW X G W (.BoolOp .And (b :: rest) pos) gb) : DW X G W (.BoolOp .And (a :: b :: rest) pos) (fAnd ga gb) := fun g =>
  (pw_and (ha g) (hb g)).imp fun σ H Q ⟨env, ex, r, h⟩ => rd_thenT r h fun H' v e r' h' => by
    cases v with
    | true => exact ⟨e, ex, r', h'⟩
    | false => exact h' H' r'
theorem dw_or (ha : DT X G W a ga) (hb : DW X G W (.BoolOp .Or (b :: rest) pos) gb) : DW X G W (.BoolOp .Or (a :: b :: rest) pos) (fOr ga gb) := fun g =>
  (pw_or (ha g) (hb g)).imp fun σ H Q ⟨env, ex, r, h⟩ => rd_thenT r h fun H' v e r' h' => by
    cases v with
    | true => exact h' H' r'
    | false => exact ⟨e, ex, r', h'⟩
theorem dt_not (ha : DT X G W a ga) : DT X G W (.UnaryOp .Not a pos) (fNot ga) := fun g =>
  (pt_not (ha g)).imp fun σ H Q ⟨env, ex, r, h⟩ => rd_thenT r h fun H' v e r' h' => h' H' r'
/-- .. as values (bools) -/
@[simp] def fAndV (f g : M T) (env : Env) : R T := (f env).bind fun t e => match t with | .fz (.bl b) => (if b = true then g e else .ok (.fz (.bl false)) e) | _ => .no
@[simp] def fOrV (f g : M T) (env : Env) : R T := (f env).bind fun t e => match t with | .fz (.bl b) => (if b = true then .ok (.fz (.bl true)) e else g e) | _ => .no
@[simp] def fNotV (f : M T) (env : Env) : R T := (f env).bind fun t e => match t with | .fz (.bl b) => .ok (.fz (.bl !b)) e | _ => .no
theorem Rel.bl {H : Hp} {σ : L2.St} {env : Env} {ex : List (V × T)} {H' : Hp} {ex0 : List (V × T)} (r : Rel G H σ env ex) (b : Bool) : Rel G H σ env ((.bl b, .fz (.bl b)) :: ex) := r.back1 (Roots.add r.2.2 fun _ => rfl)
theorem rd_of {f : M T} {σ : L2.St} {ex : List (V × T)} {env : Env} {H : Hp} {P : T → Env → Prop} {Q : VK} (l : List (V × T)) (r : Rel G H σ env (l ++ ex)) (h : Aft (XOk G W σ ex) P (f env))
    (hk : ∀ H' v t e, Rel G H' σ e ((v, t) :: (l ++ ex)) → P t e → Q v H') : rdE G W f σ H Q :=
  ⟨env, l ++ ex, r, aft_more h fun t e p H' v r' => hk H' v t e r' p⟩
theorem Rel.drop2 {H : Hp} {σ : L2.St} {env : Env} {ex : List (V × T)} {r q : V × T} (h : Rel G H σ env (r :: q :: ex)) : Rel G H σ env (r :: ex) := (h.perm (.swap ..)).drop
theorem de_one {op} (h : DE X G W a fa) : DE X G W (.BoolOp op [a] pos) fa := fun g => pe_one (h g)
theorem de_and (ha : DE X G W a fa) (hb : DE X G W (.BoolOp .And (b :: rest) pos) fb) : DE X G W (.BoolOp .And (a :: b :: rest) pos) (fAndV fa fb) := fun g =>
  (pe_and (ha g) (hb g)).imp fun σ H Q ⟨env, ex, r, h⟩ => rd_then r h fun H' v t e r' h' => by
    split at h'
    · rename_i k
      have ev : v = .bl k := r'.out1.fz
      refine ⟨k, ev, ?_⟩
      cases k with
      | true => exact rd_of [_] r' h' fun H2 w t e r2 p => p H2 w r2.drop2
      | false =>
        subst ev
        exact h' H' _ r'
    · exact h'.elim
theorem de_or (ha : DE X G W a fa) (hb : DE X G W (.BoolOp .Or (b :: rest) pos) fb) : DE X G W (.BoolOp .Or (a :: b :: rest) pos) (fOrV fa fb) := fun g =>
  (pe_or (ha g) (hb g)).imp fun σ H Q ⟨env, ex, r, h⟩ => rd_then r h fun H' v t e r' h' => by
    split at h'
    · rename_i k
      have ev : v = .bl k := r'.out1.fz
      refine ⟨k, ev, ?_⟩
      cases k with
      | false => exact rd_of [_] r' h' fun H2 w t e r2 p => p H2 w r2.drop2
      | true =>
        subst ev
        exact h' H' _ r'
    · exact h'.elim
theorem de_not (ha : DE X G W a fa) : DE X G W (.UnaryOp .Not a pos) (fNotV fa) := fun g =>
  (pe_not (ha g)).imp fun σ H Q ⟨env, ex, r, h⟩ => rd_then r h fun H' v t e r' h' => by
    split at h'
    · rename_i k
      have ev : v = .bl k := r'.out1.fz
      refine ⟨k, ev, ?_⟩
      exact h' H' _ (r'.drop.back1 (Roots.add r'.drop.2.2 fun _ => rfl))
    · exact h'.elim
@[simp] def fIf (c : M Bool) (f g : M T) (env : Env) : R T := (c env).bind fun b e => if b = true then f e else g e
theorem de_if (hc : DT X G W c gc) (ha : DE X G W a fa) (hb : DE X G W b fb) : DE X G W (.IfExp c a b pos) (fIf gc fa fb) := fun g =>
  (pe_ifExp (hc g) (ha g) (hb g)).imp fun σ H Q ⟨env, ex, r, h⟩ => rd_thenT r h fun H' v e r' h' => by
    cases v with
    | true => exact ⟨e, ex, r', h'⟩
    | false => exact ⟨e, ex, r', h'⟩
/-! ### unary -/
def UnD (X : Cx) (Z : Wd) (f : Value → Sem Value) (g : D → Option T) : Prop := ∃ r, UnR X f r ∧ ∀ (H : Hp) (rs : List (V × T)) (v : V) (d : D) (t : T) (Q : VK),
  Roots Z H ((v, .fz d) :: rs) → g d = some t → (∀ H' v, Roots Z H' ((v, t) :: rs) → Q v H') → r v H Q
@[simp] def fUn (g : D → Option T) (f : M T) (env : Env) : R T := (f env).bind fun a e => ofO e (g (frz a))
theorem de_un {op : UnaryOp} {g : D → Option T} (ho : UnD X G.Z (unaryOp op) g) (ha : DE X G W a fa) : DE X G W (.UnaryOp op a pos) (fUn g fa) := fun gd => by
  obtain ⟨r, h1, h2⟩ := ho
  refine (pe_un h1 (ha gd)).imp fun σ H Q ⟨env, ex, rel, h⟩ => rd_then rel h fun H' v t e r' h' => ?_
  cases e1 : g (frz t) with
  | none => rw [e1] at h'; exact h'.elim
  | some t2 =>
    rw [e1] at h'
    exact h2 H' _ v _ t2 Q r'.freeze.out1 e1 fun H2 w q => h' H2 w (r'.back1 q)
/-! ### arguments -/
@[simp] def fNil (env : Env) : R (List T) := .ok [] env
@[simp] def fCons (f : M T) (g : M (List T)) (env : Env) : R (List T) := (f env).bind fun t e => (g e).bind fun ts e' => .ok (t :: ts) e'
/-- a slot handed over: its tree is moved -/
@[simp] def fMove (i : Nat) (g : M (List T)) (env : Env) : R (List T) := match env[i]? with
  | some (some t) => (g (env.set i none)).bind fun ts e' => .ok (t :: ts) e'
  | _ => .no
variable {e : Expr} {es : List Expr} {src : List (Option Nat)} {fs : M (List T)}
theorem da_nil : DA X G W [] [] fNil := fun g => pa_nil.imp fun σ H Q ⟨env, ex, r, h⟩ => h H [] rfl rfl (fun k j e => by simp at e) r
theorem aft_bind {α β : Type} {xw : Env → Ex → Prop} {P : β → Env → Prop} {r : R α} {k : α → Env → R β} (h : Aft xw P (r.bind k)) : Aft xw (fun a e => Aft xw P (k a e)) r := by
  cases r <;> exact h
theorem da_cons (ha : DE X G W e fa) (hr : DA X G W es src fs) (hs : starEach (e :: es) X.env = (false, eval e X.env) :: starEach es X.env := by rfl) : DA X G W (e :: es) (none :: src) (fCons fa fs) := fun g =>
  (pa_cons (ha g) (hr g) hs).imp fun σ H Q ⟨env, ex, r, h⟩ => rd_then r h fun H' v t e r' h' => by
    refine ⟨e, (v, t) :: ex, r', aft_more (l := [(v, t)]) (aft_bind h') fun ts e2 p H2 vs hl hs hsrc r2 => ?_⟩
    refine p H2 (v :: vs) (by simpa using hl) (by simpa using hs) (fun k j ek => ?_) ?_
    · cases k with
      | zero => cases ek
      | succ k => exact hsrc k j ek
    · exact r2.perm List.perm_middle
theorem da_move {i : Nat} {x : Str} {pos : Pos} (hN : X.N[i]? = some x) (hv : Vis X.env.scope x) (hr : DA X G W es src fs) (hs : starEach (.Name x pos :: es) X.env = (false, eval (.Name x pos) X.env) :: starEach es X.env := by rfl)
    (hd : (x == ("__debug__" : Str)) = false := by decide) (hcd : (x == ("__classdict__" : Str)) = false := by decide) : DA X G W (.Name x pos :: es) (some i :: src) (fMove i fs) := fun g =>
  (pa_cons (pe_var hN hv hd hcd) (hr g) hs).imp fun σ H Q ⟨env, ex, r, h⟩ => by
    unfold fMove at h
    split at h
    · rename_i t et
      obtain ⟨v, ev, r'⟩ := r.take et
      refine ⟨v, ev, env.set i none, (v, t) :: ex, r', aft_more (l := [(v, t)]) (aft_bind h) fun ts e2 p H2 vs hl hs hsrc r2 => ?_⟩
      refine p H2 (v :: vs) (by simpa using hl) (by simpa using hs) (fun k j ek => ?_) ?_
      · cases k with
        | zero =>
          have ek : some i = some j := Option.some.inj ek
          cases ek
          exact ⟨v, rfl, ev⟩
        | succ k => exact hsrc k j ek
      · exact r2.perm List.perm_middle
    · exact h.elim
/-! ### built-in functions by values -/
def CallD (X : Cx) (Z : Wd) (f : Value) (g : List D → Option T) : Prop := ∃ r, CallR X f r ∧ ∀ (H : Hp) (rs : List (V × T)) (vs : List V) (ds : List D) (t : T) (Q : VK),
  Roots Z H (vs.zip (ds.map T.fz) ++ rs) → vs.length = ds.length → g ds = some t → (∀ H' v, Roots Z H' ((v, t) :: rs) → Q v H') → r vs H Q
@[simp] def fCB (g : List D → Option T) (fs : M (List T)) (env : Env) : R T := (fs env).bind fun ts e => ofO e (g (frzs ts))
theorem Roots.freezes {Z : Wd} {H : Hp} : ∀ {vs : List V} {ts : List T} {rs : List (V × T)}, Roots Z H (vs.zip ts ++ rs) → Roots Z H (vs.zip ((frzs ts).map T.fz) ++ rs)
  | [], _, _, h => by simpa using h
  | _ :: _, [], _, h => by simpa [frzs] using h
  | v :: vs, t :: ts, rs, h => by
    have h1 : Roots Z H ((v, .fz (frz t)) :: (vs.zip ts ++ rs)) := Roots.freeze h
    have h2 : Roots Z H (vs.zip ts ++ ((v, .fz (frz t)) :: rs)) := h1.perm List.perm_middle.symm
    exact (Roots.freezes h2).perm List.perm_middle
theorem frzs_len : ∀ ts : List T, (frzs ts).length = ts.length
  | [] => rfl
  | _ :: ts => congrArg (· + 1) (frzs_len ts)
theorem rd_cb {g : List D → Option T} {r : List V → Hp → VK → Prop} (hr : ∀ (H : Hp) (rs : List (V × T)) (vs : List V) (ds : List D) (t : T) (Q : VK),
    Roots G.Z H (vs.zip (ds.map T.fz) ++ rs) → vs.length = ds.length → g ds = some t → (∀ H' v, Roots G.Z H' ((v, t) :: rs) → Q v H') → r vs H Q)
    (σ : L2.St) (H : Hp) (Q : VK) (h : rdE G W (fCB g fs) σ H Q) : tCB r (rdA G W src fs) σ H Q := by
  obtain ⟨env, ex, rel, h⟩ := h
  refine ⟨env, ex, rel, aft_more (l := []) (aft_bind h) fun ts e p H2 vs hl hs hsrc r2 => ?_⟩
  cases e1 : g (frzs ts) with
  | none => rw [e1] at p; exact p.elim
  | some t =>
    rw [e1] at p
    exact hr H2 _ vs _ t Q (Roots.freezes r2.out) (by rw [frzs_len]; exact hl) e1 fun H' v q => p H' v (r2.back1 q)
theorem de_callB {x : Str} {id : String} {g : List D → Option T} {p : Pos} (hc : CallD X G.Z (.builtin id) g) (hg : Gl X x) (hm : X.mg x = none) (hv : bootBuiltins x = some (.builtin id)) (ha : DA X G W (e :: es) src fs) (hn : x ≠ "__name__" := by decide) (hdb : (x == ("__debug__" : Str)) = false := by decide)
    (he : starEach (e :: es) X.env = (false, eval e X.env) :: starEach es X.env := by rfl) (hpl : (backTo pos (starEach es X.env)).any (·.1) = false := by rfl) : DE X G W (.Call (.Name x p) (e :: es) [] pos) (fCB g fs) := fun gd => by
  obtain ⟨r, h1, h2⟩ := hc
  exact (pe_callB h1 hg hm hv (ha gd) hn hdb he hpl).imp (rd_cb h2)
theorem de_callTy {x : Str} {id : String} {g : List D → Option T} {p : Pos} (hc : CallD X G.Z (.type id) g) (hg : Gl X x) (hm : X.mg x = none) (hv : bootBuiltins x = some (.type id)) (ha : DA X G W (e :: es) src fs) (hn : x ≠ "__name__" := by decide) (hdb : (x == ("__debug__" : Str)) = false := by decide)
    (he : starEach (e :: es) X.env = (false, eval e X.env) :: starEach es X.env := by rfl) (hpl : (backTo pos (starEach es X.env)).any (·.1) = false := by rfl) : DE X G W (.Call (.Name x p) (e :: es) [] pos) (fCB g fs) := fun gd => by
  obtain ⟨r, h1, h2⟩ := hc
  exact (pe_callTy h1 hg hm hv (ha gd) hn hdb he hpl).imp (rd_cb h2)
/-! ### displays -/
/-- [a, b, ..]: an owned list -/
@[simp] def fLst (fs : M (List T)) (env : Env) : R T := (fs env).bind fun ts e => if ts.length ≤ sizeLine then .ok (.lst ts) e else .no
@[simp] def fTup (fs : M (List T)) (env : Env) : R T := (fs env).bind fun ts e => if ts.length ≤ sizeLine then .ok (.fz (.tup (frzs ts))) e else .no
theorem de_lst (ha : DA X G W es src fs) : DE X G W (.List es pos) (fLst fs) := fun gd =>
  (pe_lst (ha gd)).imp fun σ H Q ⟨env, ex, rel, h⟩ => ⟨env, ex, rel, aft_more (l := []) (aft_bind h) fun ts e p H2 vs hl hs hsrc r2 => by
    split at p
    · rename_i hz
      exact ⟨by rw [hl]; exact hz, fun q nq => p _ _ (r2.back1 (Roots.newL hl r2.out nq))⟩
    · exact p.elim⟩
theorem de_tup {k : Nat} (ha : DA X G W es src fs) : DE X G W (.Tuple es k pos) (fTup fs) := fun gd =>
  (pe_tup (ha gd)).imp fun σ H Q ⟨env, ex, rel, h⟩ => ⟨env, ex, rel, aft_more (l := []) (aft_bind h) fun ts e p H2 vs hl hs hsrc r2 => by
    split at p
    · rename_i hz
      exact ⟨by rw [hl]; exact hz, fun q nq => p _ _ (r2.back1 (Roots.newT (by rw [frzs_len]; exact hl) (Roots.freezes r2.out) nq))⟩
    · exact p.elim⟩
end
end DL

set_option maxHeartbeats 4000000
namespace DL
open PySem PySem.Spec PyProof.Rows L2
inductive RS where
  | nx (e : Env) | rt (t : T) (e : Env) | bk (e : Env) | ct (e : Env) | ex (x : Ex) (e : Env) | no
abbrev MS := Env → RS
def AftS (G : Sg) (W : WX) (D : Ends) (ex : List (V × T)) : RS → Prop
  | .nx e => ∀ σ' H', Rel G H' σ' e ex → D.nx σ' H'
  | .rt t e => ∀ σ' H' v, Rel G H' σ' e ((v, t) :: ex) → D.rt v H'
  | .bk e => ∀ σ' H', Rel G H' σ' e ex → D.bk σ' H'
  | .ct e => ∀ σ' H', Rel G H' σ' e ex → D.ct σ' H'
  | .ex x e => ∀ σ', XOk G W σ' ex e x
  | .no => False
def rdS (G : Sg) (W : WX) (f : MS) : TS := fun D σ H => ∃ env ex, Rel G H σ env ex ∧ AftS G W D ex (f env)
def DS (X : Cx) (G : Sg) (W : WX) (st : Stmt) (f : MS) : Prop := Good X G W → PS X st (rdS G W f)
def DSs (X : Cx) (G : Sg) (W : WX) (sts : List Stmt) (f : MS) : Prop := Good X G W → PSs X sts (rdS G W f)
@[simp] def R.s {α : Type} (r : R α) (k : α → Env → RS) : RS := match r with
  | .ok a e => k a e
  | .ex x e => .ex x e
  | .no => .no
section
variable {X : Cx} {G : Sg} {W : WX} {e a b c : Expr} {es : List Expr} {fa fb fc : M T} {ga gb gc : M Bool} {src : List (Option Nat)} {fs : M (List T)} {pos : Pos} {st : Stmt} {sts bd : List Stmt} {f g : MS}
theorem rd_s {f : M T} {k : T → Env → RS} {σ : L2.St} {ex : List (V × T)} {env : Env} {H : Hp} {D : Ends} {Q : VK} (r : Rel G H σ env ex) (h : AftS G W D ex ((f env).s k))
    (hk : ∀ H' v t e, Rel G H' σ e ((v, t) :: ex) → AftS G W D ex (k t e) → Q v H') : rdE G W f σ H Q := by
  refine ⟨env, ex, r, ?_⟩
  cases e1 : f env with
  | no => rw [e1] at h; exact h
  | ex x e => rw [e1] at h; exact h σ
  | ok t e => rw [e1] at h; exact fun H' v r' => hk H' v t e r' h
theorem rd_sT {f : M Bool} {k : Bool → Env → RS} {σ : L2.St} {ex : List (V × T)} {env : Env} {H : Hp} {D : Ends} {Q : Bool → Hp → Prop} (r : Rel G H σ env ex) (h : AftS G W D ex ((f env).s k))
    (hk : ∀ H' t e, Rel G H' σ e ex → AftS G W D ex (k t e) → Q t H') : rdT G W f σ H Q := by
  refine ⟨env, ex, r, ?_⟩
  cases e1 : f env with
  | no => rw [e1] at h; exact h
  | ex x e => rw [e1] at h; exact h σ
  | ok t e => rw [e1] at h; exact fun H' r' => hk H' t e r' h
theorem aftS_more {D D' : Ends} {ex : List (V × T)} (l : List (V × T)) {r : RS} (h : AftS G W D ex r) (h1 : ∀ e, r = .nx e → (∀ σ H, Rel G H σ e ex → D.nx σ H) → ∀ σ H, Rel G H σ e (l ++ ex) → D'.nx σ H)
    (h2 : ∀ v H, D.rt v H → D'.rt v H) (h3 : ∀ e, r = .bk e → (∀ σ H, Rel G H σ e ex → D.bk σ H) → ∀ σ H, Rel G H σ e (l ++ ex) → D'.bk σ H) (h4 : ∀ e, r = .ct e → (∀ σ H, Rel G H σ e ex → D.ct σ H) → ∀ σ H, Rel G H σ e (l ++ ex) → D'.ct σ H) : AftS G W D' (l ++ ex) r := by
  cases r with
  | nx e => exact h1 e rfl h
  | rt t e => exact fun σ H v r => h2 v H (h σ H v ((r.perm List.perm_middle.symm).drops (l := l)))
  | bk e => exact h3 e rfl h
  | ct e => exact h4 e rfl h
  | ex x e => exact fun σ' => (h σ').more l
  | no => exact h
/-! ### blocks -/
@[simp] def fNext (env : Env) : RS := .nx env
@[simp] def fSeq (f g : MS) (env : Env) : RS := match f env with
  | .nx e => g e
  | r => r
theorem dss_nil : DSs X G W [] fNext := fun gd => pss_nil.imp fun D σ H ⟨env, ex, r, h⟩ => h σ H r
theorem dss_one (h : DS X G W st f) : DSs X G W [st] f := fun gd => pss_one (h gd)
theorem dss_cons (h1 : DS X G W st f) (h2 : DSs X G W sts g) : DSs X G W (st :: sts) (fSeq f g) := fun gd =>
  (pss_cons (h1 gd) (h2 gd)).imp fun D σ H ⟨env, ex, r, h⟩ => by
    refine ⟨env, ex, r, ?_⟩
    unfold fSeq at h
    cases e : f env with
    | nx e' => rw [e] at h; exact fun σ' H' r' => ⟨e', ex, r', h⟩
    | rt t e' => rw [e] at h; exact h
    | bk e' => rw [e] at h; exact h
    | ct e' => rw [e] at h; exact h
    | ex x e' => rw [e] at h; exact h
    | no => rw [e] at h; exact h
theorem ds_pass : DS X G W (.Pass pos) fNext := fun gd => ps_pass.imp fun D σ H ⟨env, ex, r, h⟩ => h σ H r
theorem ds_break : DS X G W (.Break pos) (fun env => .bk env) := fun gd => ps_break.imp fun D σ H ⟨env, ex, r, h⟩ => h σ H r
theorem ds_continue : DS X G W (.Continue pos) (fun env => .ct env) := fun gd => ps_continue.imp fun D σ H ⟨env, ex, r, h⟩ => h σ H r
@[simp] def fExpr (f : M T) (env : Env) : RS := (f env).s fun _ e => .nx e
theorem ds_expr (ha : DE X G W e fa) (hs : swapsWith e none pos.line X.env = pure false := by rfl) : DS X G W (.Expr e pos) (fExpr fa) := fun gd =>
  (ps_expr (ha gd) hs).imp fun D σ H ⟨env, ex, r, h⟩ => rd_s r h fun H' v t e r' h' => h' σ H' r'.drop
@[simp] def fRet (f : M T) (env : Env) : RS := (f env).s fun t e => .rt t e
theorem ds_ret (ha : DE X G W e fa) : DS X G W (.Return (some e) pos) (fRet fa) := fun gd =>
  (ps_ret (ha gd)).imp fun D σ H ⟨env, ex, r, h⟩ => rd_s r h fun H' v t e r' h' => h' σ H' v r'
theorem ds_retN : DS X G W (.Return none pos) (fun env => .rt (.fz .non) env) := fun gd =>
  ps_retN.imp fun D σ H ⟨env, ex, r, h⟩ => h σ H .non (r.back1 (Roots.add r.2.2 fun _ => rfl))
@[simp] def fIfS (c : M Bool) (f g : MS) (env : Env) : RS := (c env).s fun b e => if b = true then f e else g e
theorem ds_if (hc : DT X G W c gc) (ha : DSs X G W sts f) (hb : DSs X G W bd g) : DS X G W (.If c sts bd pos) (fIfS gc f g) := fun gd =>
  (ps_if (hc gd) (ha gd) (hb gd)).imp fun D σ H ⟨env, ex, r, h⟩ => rd_sT r h fun H' t e r' h' => by
    cases t with
    | true => exact ⟨e, ex, r', h'⟩
    | false => exact ⟨e, ex, r', h'⟩
/-! ### targets -/
/-- the slots besides vs are as they were -/
def Off (vs : List Nat) (σ σ' : L2.St) : Prop := σ'.length = σ.length ∧ ∀ i : Nat, i ∉ vs → σ'[i]? = σ[i]?
theorem Off.refl (vs : List Nat) (σ : L2.St) : Off vs σ σ := ⟨rfl, fun _ _ => rfl⟩
theorem Off.mono {vs ws : List Nat} {σ σ' : L2.St} (h : Off vs σ σ') (k : ∀ i ∈ vs, i ∈ ws) : Off ws σ σ' := ⟨h.1, fun i hi => h.2 i fun z => hi (k i z)⟩
theorem Off.trans {vs : List Nat} {σ σ' σ'' : L2.St} (h : Off vs σ σ') (k : Off vs σ' σ'') : Off vs σ σ'' := ⟨k.1.trans h.1, fun i hi => (k.2 i hi).trans (h.2 i hi)⟩
theorem Off.set {i : Nat} {σ : L2.St} {x : Option V} : Off [i] σ (σ.set i x) := ⟨by simp, fun j hj => List.getElem?_set_ne (fun z => hj (by simp [z]))⟩
def rdG (G : Sg) (vs : List Nat) (set : T → Env → Option Env) : TG := fun v σ H Q => ∃ env ex t, Rel G H σ env ((v, t) :: ex) ∧ ∃ e, set t env = some e ∧ ∀ σ' H', Off vs σ σ' → Rel G H' σ' e ex → Q σ' H'
def DG (X : Cx) (G : Sg) (W : WX) (tg : Expr) (vs : List Nat) (set : T → Env → Option Env) : Prop := Good X G W → PG X tg (rdG G vs set)
theorem _root_.L2.PG.imp {X : Cx} {e : Expr} {t u : TG} (h : PG X e t) (k : ∀ v σ H Q, u v σ H Q → t v σ H Q) : PG X e u := ⟨fun pins s σ H v x Q I rv q => h.run pins s σ H v x Q I rv (k v σ H Q q)⟩
theorem _root_.L2.PGs.imp {X : Cx} {e : List Expr} {t u : TGs} (h : PGs X e t) (k : ∀ v σ H Q, u v σ H Q → t v σ H Q) : PGs X e u := ⟨fun pins s σ H v x Q I rv q => h.run pins s σ H v x Q I rv (k v σ H Q q)⟩
@[simp] def sName (i : Nat) (t : T) (env : Env) : Option Env := some (env.set i (some t))
theorem dg_name {i : Nat} {x : Str} (hi : X.N[i]? = some x) (hx : Loc X.env.scope x) (hn : i < G.n) (ni : i ∉ G.io) (hf : X.fn x = true ∨ X.env.scope.names.lookup x = some .local := by first | exact .inl rfl | exact .inr rfl | assumption) : DG X G W (.Name x pos) [i] (sName i) := fun gd =>
  (pg_name gd.nd hi hx hf).imp fun v σ H Q ⟨env, ex, t, r, e, he, h⟩ => by
    cases he
    exact h _ H Off.set (r.store hn ni)
/-- several names, from a tuple of frozen data -/
def rdGs (G : Sg) (ws : List Nat) (set : List D → Env → Option Env) : TGs := fun vs σ H Q => ∃ env ex ds, vs.length = ds.length ∧ Rel G H σ env (vs.zip (ds.map T.fz) ++ ex) ∧ ∃ e, set ds env = some e ∧ ∀ σ' H', Off ws σ σ' → Rel G H' σ' e ex → Q σ' H'
def DGs (X : Cx) (G : Sg) (W : WX) (tg : List Expr) (ws : List Nat) (set : List D → Env → Option Env) : Prop := Good X G W → PGs X tg (rdGs G ws set)
@[simp] def sNil : List D → Env → Option Env
  | [], env => some env
  | _, _ => none
@[simp] def sCons (s : T → Env → Option Env) (ss : List D → Env → Option Env) : List D → Env → Option Env
  | d :: ds, env => (s (.fz d) env).bind fun e => ss ds e
  | [], _ => none
theorem dgs_nil : DGs X G W [] [] sNil := fun gd => pgs_nil.imp fun vs σ H Q ⟨env, ex, ds, hl, r, e, he, h⟩ => by
  cases ds with
  | nil =>
    cases vs with
    | nil =>
      cases he
      exact ⟨rfl, h σ H (Off.refl ..) r⟩
    | cons => cases hl
  | cons => cases he
theorem dgs_cons {s : T → Env → Option Env} {ss : List D → Env → Option Env} {ws us : List Nat} (h1 : DG X G W e ws s) (h2 : DGs X G W es us ss) (hs : (assignEach (e :: es) X.env).map (·.2) = assign e X.env :: (assignEach es X.env).map (·.2) := by rfl) : DGs X G W (e :: es) (ws ++ us) (sCons s ss) := fun gd =>
  (pgs_cons (h1 gd) (h2 gd) hs).imp fun vs σ H Q ⟨env, ex, ds, hl, r, e, he, h⟩ => by
    cases ds with
    | nil => cases he
    | cons d ds =>
      cases vs with
      | nil => cases hl
      | cons v vs =>
        have he : (s (.fz d) env).bind (fun e => ss ds e) = some e := he
        obtain ⟨e1, q1, q2⟩ := Option.bind_eq_some_iff.mp he
        refine ⟨v, vs, rfl, env, vs.zip (ds.map T.fz) ++ ex, .fz d, r, e1, q1, fun σ' H' o1 r' => ?_⟩
        exact ⟨e1, ex, ds, Nat.succ.inj hl, r', e, q2, fun σ2 H2 o2 r2 => h σ2 H2 ((o1.mono fun i hi => List.mem_append_left _ hi).trans (o2.mono fun i hi => List.mem_append_right _ hi)) r2⟩
@[simp] def sTup (ss : List D → Env → Option Env) (t : T) (env : Env) : Option Env := match frz t with
  | .tup ds => ss ds env
  | _ => none
theorem Rel.tup {H : Hp} {σ : L2.St} {env : Env} {ex : List (V × T)} {v : V} {ds : List D} (r : Rel G H σ env ((v, .fz (.tup ds)) :: ex)) : ∃ a vs, v = .ref a ∧ SqT G.Z.K H a vs ∧ vs.length = ds.length ∧ Rel G H σ env (vs.zip (ds.map T.fz) ++ ex) := by
  have ro := r.out1
  obtain ⟨F, _, s, ⟨f1, f2, ⟨⟨a, vs, e, q, rp⟩, e1⟩, o2, rfl⟩, n, d⟩ := ro
  subst e1
  refine ⟨a, vs, e, same_t s q, rp.length, r.back (l := vs.zip (ds.map T.fz)) ⟨F, f2, s, ?_, n, d⟩⟩
  have all : ∀ {vs : List V} {ds : List D}, Rps G.Z F vs ds → OwnR G.Z F H (vs.zip (ds.map T.fz)) [] := by
    intro vs
    induction vs with
    | nil => intro ds h; cases ds <;> rfl
    | cons v vs ih =>
      intro ds h
      cases ds with
      | nil => exact h.elim
      | cons d ds => exact ⟨[], [], ⟨h.1, rfl⟩, ih h.2, rfl⟩
  exact (all rp).append o2
theorem dg_tup {k n : Nat} {ss : List D → Env → Option Env} {ws : List Nat} (h : DGs X G W es ws ss) (hn : (assignEach es X.env).length = n := by rfl) (hst : (assignEach es X.env).findIdx? (·.1) = none := by rfl)
    (hl : ∀ ds env e, ss ds env = some e → ds.length = n) : DG X G W (.Tuple es k pos) ws (sTup ss) := fun gd =>
  (pg_tup gd.calm (h gd) hn hst).imp fun v σ H Q ⟨env, ex, t, r, e, he, h⟩ => by
    unfold sTup at he
    split at he
    · rename_i ds et
      have r2 := r.freeze
      rw [et] at r2
      obtain ⟨a, vs, ev, q, el, r3⟩ := r2.tup
      exact ⟨a, vs, ev, by rw [← gd.hK]; exact q, el.trans (hl ds env e he), env, ex, ds, el, r3, e, he, h⟩
    · cases he
/-- the numbers of names in a target -/
theorem sNil_len {ds : List D} {env e : Env} (h : sNil ds env = some e) : ds.length = 0 := by
  cases ds with
  | nil => rfl
  | cons => cases h
theorem sCons_len {s : T → Env → Option Env} {ss : List D → Env → Option Env} {n : Nat} (k : ∀ ds env e, ss ds env = some e → ds.length = n) (ds : List D) (env e : Env) (h : sCons s ss ds env = some e) : ds.length = n + 1 := by
  cases ds with
  | nil => cases h
  | cons d ds =>
    obtain ⟨e1, q1, q2⟩ := Option.bind_eq_some_iff.mp (show (s (.fz d) env).bind (fun e => ss ds e) = some e from h)
    exact congrArg (· + 1) (k ds e1 e q2)
/-! ### assignments -/
@[simp] def fAsg (f : M T) (set : T → Env → Option Env) (env : Env) : RS := (f env).s fun t e => match set t e with
  | some e' => .nx e'
  | none => .no
@[simp] def fSet (i : Nat) (f : M T) (env : Env) : RS := (f env).s fun t e => .nx (e.set i (some t))
theorem ds_asg {tg : Expr} {set : T → Env → Option Env} {ws : List Nat} (he : DE X G W e fa) (hg : DG X G W tg ws set) (hs : swapsWithSole [tg] e pos.line X.env = pure false := by rfl) (hw : swappedStores [tg] e X.env = pure none := by rfl)
    (h1 : (assignEach [tg] X.env).map (·.2) = [assign tg X.env] := by rfl) : DS X G W (.Assign [tg] e pos) (fAsg fa set) := fun gd =>
  (ps_asg (he gd) (hg gd) hs hw h1).imp fun D σ H ⟨env, ex, r, h⟩ => rd_s r h fun H' v t e r' h' => by
    cases es : set t e with
    | none => rw [es] at h'; exact h'.elim
    | some e' => rw [es] at h'; exact ⟨e, ex, t, r', e', es, fun σ' H' _ r2 => h' σ' H' r2⟩
theorem ds_set {i : Nat} {x : Str} {pos' : Pos} (hi : X.N[i]? = some x) (hx : Loc X.env.scope x) (hn : i < G.n) (ni : i ∉ G.io) (he : DE X G W e fa) (hs : swapsWith e (some (.Name x pos')) pos.line X.env = pure false := by rfl) (hf : X.fn x = true ∨ X.env.scope.names.lookup x = some .local := by first | exact .inl rfl | exact .inr rfl | assumption) :
    DS X G W (.Assign [.Name x pos'] e pos) (fSet i fa) := fun gd =>
  (ps_set gd.nd hi hx (he gd) hs hf).imp fun D σ H ⟨env, ex, r, h⟩ => rd_s r h fun H' v t e r' h' => h' _ H' (r'.store hn ni)
/-- a, b = x, y -/
@[simp] def par2 (i j : Nat) (e : Env) : List T → RS
  | [t, u] => .nx ((e.set i (some t)).set j (some u))
  | _ => .no
@[simp] def fPar (i j : Nat) (fs : M (List T)) (env : Env) : RS := (fs env).s fun ts e => par2 i j e ts
theorem ds_par {i j : Nat} {x y : Str} {px py pt : Pos} {kt k2 pt2} (hi : X.N[i]? = some x) (hj : X.N[j]? = some y) (hij : i ≠ j) (ni : i < G.n) (nj : j < G.n) (oi : i ∉ G.io) (oj : j ∉ G.io)
    (hx : X.env.scope.names.lookup x = some .local) (hy : X.env.scope.names.lookup y = some .local) (ha : DA X G W [a, b] [none, none] fs)
    (hw : swappedStores [.Tuple [.Name x px, .Name y py] kt pt] (.Tuple [a, b] k2 pt2) X.env = pure (some [x, y]) := by rfl)
    (hs : swapsWithSole [.Tuple [.Name x px, .Name y py] kt pt] (.Tuple [a, b] k2 pt2) pos.line X.env = pure false := by rfl) :
    DS X G W (.Assign [.Tuple [.Name x px, .Name y py] kt pt] (.Tuple [a, b] k2 pt2) pos) (fPar i j fs) := fun gd =>
  (ps_par gd.calm gd.nd hi hj hij hx hy (ha gd) hw hs).imp fun D σ H ⟨env, ex, r, h⟩ => by
    refine ⟨env, ex, r, ?_⟩
    unfold fPar at h
    cases e1 : fs env with
    | no => rw [e1] at h; exact h
    | ex x e => rw [e1] at h; exact h σ
    | ok ts e =>
      rw [e1] at h
      intro H' vs hl hs hsrc r'
      have h : AftS G W D ex (par2 i j e ts) := h
      rcases ts with _ | ⟨t, _ | ⟨u, _ | ⟨q, ts⟩⟩⟩
      · exact h.elim
      · exact h.elim
      · rcases vs with _ | ⟨v, _ | ⟨w, _ | ⟨q, vs⟩⟩⟩
        · cases hl
        · cases hl
        · refine ⟨v, w, rfl, h _ H' ?_⟩
          have r2 : Rel G H' σ e ((v, t) :: (w, u) :: ex) := r'
          exact (r2.store ni oi).store nj oj
        · cases hl
      · exact h.elim
/-! ### while -/
def loopW (c : M Bool) (b : MS) : Nat → Env → RS
  | 0, _ => .no
  | n + 1, env => (c env).s fun k e => if k = true then (match b e with
      | .nx e' => loopW c b n e'
      | .ct e' => loopW c b n e'
      | .bk e' => .nx e'
      | .rt t e' => .rt t e'
      | .ex x e' => .ex x e'
      | .no => .no) else .nx e
@[simp] def fWhile (fuel : Env → Nat) (c : M Bool) (b : MS) (env : Env) : RS := loopW c b (fuel env) env
theorem ds_while (fuel : Env → Nat) (hc : DT X G W c gc) (hb : DSs X G W bd f) : DS X G W (.While c bd [] pos) (fWhile fuel gc f) := fun gd =>
  (ps_while gd.own (hc gd) (hb gd)).imp fun D σ H ⟨env, ex, r, h⟩ => by
    refine ⟨fun m σ H => ∃ env, Rel G H σ env ex ∧ AftS G W D ex (loopW gc f m env), ⟨_, env, r, h⟩, ?_⟩
    rintro m σ H ⟨env, r, h⟩
    cases m with
    | zero => exact h.elim
    | succ m =>
      refine rd_sT r h fun H' k e r' h' => ?_
      cases k with
      | false => exact h' σ H' r'
      | true =>
        refine ⟨fun σ' H' => ∃ env, Rel G H' σ' env ex ∧ AftS G W D ex (loopW gc f m env), fun σ' H' q => ⟨m, Nat.lt_succ_self m, q⟩, e, ex, r', ?_⟩
        have h' : AftS G W D ex (match f e with
          | .nx e' => loopW gc f m e'
          | .ct e' => loopW gc f m e'
          | .bk e' => .nx e'
          | .rt t e' => .rt t e'
          | .ex x e' => .ex x e'
          | .no => .no) := h'
        cases e2 : f e with
        | nx e' => rw [e2] at h'; exact fun σ' H' r2 => ⟨e', r2, h'⟩
        | ct e' => rw [e2] at h'; exact fun σ' H' r2 => ⟨e', r2, h'⟩
        | bk e' => rw [e2] at h'; exact h'
        | rt t e' => rw [e2] at h'; exact h'
        | ex x e' => rw [e2] at h'; exact h'
        | no => rw [e2] at h'; exact h'
/-! ### what is walked -/
structure DWalk (Z : Wd) (J : It) (ks : List (V × T)) (ds : List D) : Prop where
  go : ∀ (i : Nat) (H : Hp) (rs : List (V × T)), i < ds.length → Roots Z H (ks ++ rs) → J.go i H
  stop : ∀ (H : Hp) (rs : List (V × T)), Roots Z H (ks ++ rs) → J.stop ds.length H
  yld : ∀ (i : Nat) (H H' : Hp) (x : V) (rs : List (V × T)) (d : D), ds[i]? = some d → Roots Z H (ks ++ rs) → J.yld i H x H' → Roots Z H' ((x, .fz d) :: (ks ++ rs))
def rdI (G : Sg) (W : WX) (f : M (List D)) : TI := fun σ H R => ∃ env ex, Rel G H σ env ex ∧
  Aft (XOk G W σ ex) (fun ds e => ∀ H' J ks, DWalk G.Z J ks ds → Rel G H' σ e (ks ++ ex) → R J H') (f env)
def DI (X : Cx) (G : Sg) (W : WX) (tg e : Expr) (f : M (List D)) : Prop := Good X G W → PI X tg e (rdI G W f)
theorem _root_.L2.PI.imp {X : Cx} {tg e : Expr} {t u : TI} (h : PI X tg e t) (k : ∀ σ H Q, u σ H Q → t σ H Q) : PI X tg e u := ⟨fun pins s σ H Q I q => h.run pins s σ H Q I (k σ H Q q)⟩
theorem _root_.L2.PI.or {X : Cx} {tg e : Expr} {t u : TI} (h1 : PI X tg e t) (h2 : PI X tg e u) : PI X tg e (fun σ H R => t σ H R ∨ u σ H R) := ⟨fun pins s σ H Q I q => q.elim (h1.run pins s σ H Q I) (h2.run pins s σ H Q I)⟩
def loopF (set : T → Env → Option Env) (b : MS) : List D → Env → RS
  | [], env => .nx env
  | d :: ds, env => match set (.fz d) env with
    | none => .no
    | some e => match b e with
      | .nx e' => loopF set b ds e'
      | .ct e' => loopF set b ds e'
      | .bk e' => .nx e'
      | .rt t e' => .rt t e'
      | .ex x e' => .ex x e'
      | .no => .no
@[simp] def fFor (fi : M (List D)) (set : T → Env → Option Env) (b : MS) (env : Env) : RS := (fi env).s fun ds e => loopF set b ds e
theorem ds_for {tg iter : Expr} {fi : M (List D)} {set : T → Env → Option Env} {ws : List Nat} (hi : DI X G W tg iter fi) (hg : DG X G W tg ws set) (hb : DSs X G W bd f) (hs : ∀ x, foldedSetIterable iter X.env x = pure x := by intro _; rfl) : DS X G W (.For tg iter bd [] pos) (fFor fi set f) := fun gd =>
  (ps_for gd.own gd.calm (hi gd) (hg gd) (hb gd) hs).imp fun D σ H ⟨env, ex, r, h⟩ => by
    refine ⟨env, ex, r, ?_⟩
    unfold fFor at h
    cases e1 : fi env with
    | no => rw [e1] at h; exact h
    | ex x e => rw [e1] at h; exact h σ
    | ok ds e =>
      rw [e1] at h
      intro H' J ks w r'
      refine ⟨fun i m σ H => i ≤ ds.length ∧ m = ds.length - i ∧ ∃ env, Rel G H σ env (ks ++ ex) ∧ AftS G W D ex (loopF set f (ds.drop i) env), ⟨_, Nat.zero_le _, rfl, e, r', h⟩, ?_⟩
      rintro i m σ H ⟨hi, rfl, env, r, h⟩
      by_cases hlt : i < ds.length
      · have ed : ds[i]? = some ds[i] := List.getElem?_eq_getElem hlt
        rw [List.drop_eq_getElem_cons hlt] at h
        refine .inr ⟨w.go i H _ hlt r.out, fun σ' H' => ∃ env, Rel G H' σ' env (ks ++ ex) ∧ AftS G W D ex (loopF set f (ds.drop (i + 1)) env), fun σ' H' q => ⟨ds.length - (i + 1), by omega, hlt, rfl, q⟩, fun x H1 y => ?_⟩
        have r1 : Rel G H1 σ env ((x, .fz ds[i]) :: (ks ++ ex)) := r.back (l := (x, .fz ds[i]) :: ks) (w.yld i H H1 x _ _ ed r.out y)
        have h : AftS G W D ex (match set (.fz ds[i]) env with
          | none => .no
          | some e => match f e with
            | .nx e' => loopF set f (ds.drop (i + 1)) e'
            | .ct e' => loopF set f (ds.drop (i + 1)) e'
            | .bk e' => .nx e'
            | .rt t e' => .rt t e'
            | .ex x e' => .ex x e'
            | .no => .no) := h
        cases e2 : set (.fz ds[i]) env with
        | none => rw [e2] at h; exact h.elim
        | some env2 =>
          rw [e2] at h
          refine ⟨env, ks ++ ex, .fz ds[i], r1, env2, e2, fun σ2 H2 _ r2 => ⟨env2, ks ++ ex, r2, ?_⟩⟩
          have h : AftS G W D ex (match f env2 with
            | .nx e' => loopF set f (ds.drop (i + 1)) e'
            | .ct e' => loopF set f (ds.drop (i + 1)) e'
            | .bk e' => .nx e'
            | .rt t e' => .rt t e'
            | .ex x e' => .ex x e'
            | .no => .no) := h
          cases e3 : f env2 with
          | nx e' => rw [e3] at h; exact fun σ' H' r2 => ⟨e', r2, h⟩
          | ct e' => rw [e3] at h; exact fun σ' H' r2 => ⟨e', r2, h⟩
          | bk e' => rw [e3] at h; exact fun σ' H' r2 => h σ' H' r2.drops
          | rt t e' => rw [e3] at h; exact fun σ H v r => h σ H v ((r.perm List.perm_middle.symm).drops (l := ks))
          | ex x e' => rw [e3] at h; exact fun σ' => (h σ').more ks
          | no => rw [e3] at h; exact h
      · have ei : i = ds.length := by omega
        subst ei
        rw [List.drop_length] at h
        exact .inl ⟨w.stop H _ r.out, h σ H r.drops⟩
end
end DL

set_option maxHeartbeats 4000000
namespace DL
open PySem PySem.Spec PyProof.Rows L2
/-! ### defs -/
theorem perm3 {α : Type} (a b c : List α) : (a ++ (b ++ c)).Perm (b ++ (a ++ c)) := by
  have h : ((a ++ b) ++ c).Perm ((b ++ a) ++ c) := List.perm_append_comm.append_right c
  rw [List.append_assoc, List.append_assoc] at h
  exact h
theorem Roots.drops {Z : Wd} {H : Hp} : ∀ {q rs : List (V × T)}, Roots Z H (q ++ rs) → Roots Z H rs
  | [], _, h => h
  | _ :: q, _, h => Roots.drops (q := q) h.drop
inductive RF where
  | ok (t : T) (ts : List T) | ex (x : Ex) (ts : List T) | no
abbrev Mir := List T → RF
def ioV (io : List Nat) (vs : List V) : List V := io.map fun k => vs.getD k .non
def XF (Z : Wd) (E : XK) (rs : List (V × T)) (x : Ex) : Prop := match x.d with
  | none => ∀ H', Roots Z H' rs → E (.ref (Z.C x.c)) none H'
  | some p => ∀ H' dx, Roots Z H' ((.ref dx, .fz (.xd x.c p.1 p.2)) :: rs) → E (.ref (Z.C x.c)) (some dx) H'
def AftF (Z : Wd) (Q : VK) (E : XK) (io : List Nat) (vs : List V) (ex : List (V × T)) : RF → Prop
  | .ok t us => us.length = io.length ∧ ∀ H' v, Roots Z H' ((v, t) :: ((ioV io vs).zip us ++ ex)) → Q v H'
  | .ex x us => us.length = io.length ∧ XF Z E ((ioV io vs).zip us ++ ex) x
  | .no => False
def spOf (Z : Wd) (n : Nat) (io : List Nat) (m : Mir) : Sp := fun vs H Q E => ∃ ts ex, vs.length = n ∧ ts.length = n ∧ Roots Z H (vs.zip ts ++ ex) ∧ AftF Z Q E io vs ex (m ts)
@[simp] def outs (io : List Nat) (e : Env) : Option (List T) := match io with
  | [] => some []
  | k :: io => match e[k]? with
    | some (some t) => (outs io e).map (t :: ·)
    | _ => none
@[simp] def finF (io : List Nat) : RS → RF
  | .nx e => match outs io e with | some us => .ok (.fz .non) us | none => .no
  | .rt t e => match outs io e with | some us => .ok t us | none => .no
  | .ex x e => match outs io e with | some us => .ex x us | none => .no
  | _ => .no
@[simp] def startE (n : Nat) (ts : List T) : Env := ts.map some ++ List.replicate (n - ts.length) none
@[simp] def mirOf (n : Nat) (io : List Nat) (f : MS) (ts : List T) : RF := finF io (f (startE n ts))
theorem slots_start {vs : List V} : ∀ {ts : List T} {N : List Str}, vs.length = ts.length → slots (start N vs) (startE N.length ts) = vs.zip ts := by
  intro ts N h
  unfold L2.start startE
  rw [h]
  have rep : ∀ k, slots (List.replicate k none) (List.replicate k none) = [] := by
    intro k
    induction k with
    | zero => rfl
    | succ k ih => exact ih
  induction vs generalizing ts with
  | nil =>
    cases ts with
    | nil => exact rep _
    | cons => cases h
  | cons v vs ih =>
    cases ts with
    | nil => cases h
    | cons t ts =>
      have h' : vs.length = ts.length := Nat.succ.inj h
      have gen : ∀ k, slots (vs.map some ++ List.replicate k none) (ts.map some ++ List.replicate k none) = vs.zip ts := by
        intro k
        clear ih h
        induction vs generalizing ts with
        | nil =>
          cases ts with
          | nil => exact rep k
          | cons => cases h'
        | cons w vs ih2 =>
          cases ts with
          | nil => cases h'
          | cons u ts => exact congrArg ((w, u) :: ·) (ih2 ts (Nat.succ.inj h'))
      exact congrArg ((v, t) :: ·) (gen _)
theorem fit_start {vs : List V} {ts : List T} {N : List Str} (h : vs.length = ts.length) (hn : ts.length ≤ N.length) : Fit (start N vs) (startE N.length ts) ∧ (startE N.length ts).length = N.length := by
  unfold L2.start startE
  refine ⟨⟨by simp [h], fun i t e => ?_⟩, by simp; omega⟩
  by_cases hi : i < ts.length
  · have hv : i < vs.length := by omega
    refine ⟨vs[i], ?_⟩
    rw [List.getElem?_append_left (by simpa using hv), List.getElem?_map, List.getElem?_eq_getElem hv]
    rfl
  · rw [List.getElem?_append_right (by simpa using hi), List.getElem?_replicate] at e
    split at e <;> cases e
section
variable {G : Sg} {H : Hp} {σ : L2.St} {e : Env} {ex : List (V × T)}
theorem Rel.outs : ∀ {io : List Nat} {us : List T} {vs : List V} {e : Env} {ex : List (V × T)}, Rel G H σ e ex → io.Nodup → outs io e = some us → vs.length = io.length → (∀ (k j : Nat), io[k]? = some j → ∃ v, vs[k]? = some v ∧ σ[j]? = some (some v)) → ∃ e', Rel G H σ e' (vs.zip us ++ ex)
  | [], us, vs, e, ex, r, _, h, hl, _ => by
    cases vs with
    | nil => exact ⟨e, r⟩
    | cons => cases hl
  | k :: io, us, vs, e, ex, r, nd, h, hl, hv => by
    cases vs with
    | nil => cases hl
    | cons v vs =>
      unfold DL.outs at h
      split at h
      · rename_i t et
        obtain ⟨us', h1, rfl⟩ := Option.map_eq_some_iff.mp h
        obtain ⟨v', ev, r1⟩ := r.take et
        obtain ⟨v2, e2, e3⟩ := hv 0 k rfl
        have e2 : v = v2 := Option.some.inj e2
        subst e2
        rw [ev] at e3
        cases e3
        obtain ⟨nk, nd'⟩ := List.nodup_cons.mp nd
        have same : DL.outs io (e.set k none) = DL.outs io e := by
          clear h1 hv hl h nd
          induction io with
          | nil => rfl
          | cons j io ih =>
            have hj : k ≠ j := fun z => nk (by rw [z]; exact List.mem_cons_self ..)
            unfold DL.outs
            rw [List.getElem?_set_ne hj, ih (fun z => nk (List.mem_cons_of_mem _ z)) (List.nodup_cons.mp nd').2]
        obtain ⟨e', r2⟩ := Rel.outs (io := io) (us := us') (vs := vs) r1 nd' (same.trans h1) (Nat.succ.inj hl) fun k j ek => hv (k + 1) j ek
        exact ⟨e', r2.perm List.perm_middle⟩
      · cases h
end
theorem ioV_get {io : List Nat} {vs : List V} {N : List Str} (hb : ∀ k ∈ io, k < vs.length) (k j : Nat) (h : io[k]? = some j) : ∃ v, (ioV io vs)[k]? = some v ∧ (start N vs)[j]? = some (some v) := by
  have hj := hb j (List.mem_of_getElem? h)
  refine ⟨vs[j], ?_, ?_⟩
  · unfold ioV
    rw [List.getElem?_map, h]
    show some (vs.getD j .non) = some vs[j]
    rw [List.getD_eq_getElem?_getD, List.getElem?_eq_getElem hj]
    rfl
  · unfold L2.start
    rw [List.getElem?_append_left (by simpa using hj), List.getElem?_map, List.getElem?_eq_getElem hj]
    rfl
section
variable {P : Program} {w : World} {K : PySem.W.Frag} {mg : Str → Option Value} {base : Heap}
/-- THE RULE for a def by its body's function -/
theorem fn_d {x qual : Str} {st : Stmt} {f : Addr} {fd : FuncData} {N ps : List Str} {k : Nat} {C : Nat → Addr} {io : List Nat} {fb : MS} (F : Fun K x qual st f fd) (S : FnScope N ps (defScope st)) (hio : io.Nodup) (hib : ∀ j ∈ io, j < ps.length)
    (hbody : ∀ (X : Cx) (G : Sg) (W : WX), (∃ (cdv : Value) (A : Around) (outer : List PySem.Env) (s : Shared) (H : Hp) (E : XK), X = cxOf (L2.CX P w) P w K mg base N qual (defScope st) f cdv A outer s H E ∧ Room k X.A) → G.Z = ⟨K, C⟩ → G.io = io → G.n = N.length → DSs X G W (defBody st) fb) :
    FnOk P w K mg base (L2.CX P w) (k + 1) f fd ps (spOf ⟨K, C⟩ ps.length io (mirOf N.length io fb)) := by
  refine F.okX S (fun vs H Q E h => ?_) (fun cdv A outer s H vs Q E hr h => ?_)
  · obtain ⟨ts, ex, e, _⟩ := h
    exact e
  · obtain ⟨ts, ex, hl, ht, ro, h⟩ := h
    have hpl : ps.length ≤ N.length := by have := congrArg List.length S.pre; rw [List.length_take] at this; omega
    let G : Sg := ⟨⟨K, C⟩, io, start N vs, N.length⟩
    let W : WX := fun cls d σ H => E cls d H
    let X := cxOf (L2.CX P w) P w K mg base N qual (defScope st) f cdv A outer s H E
    have gd : Good X G W := ⟨rfl, takes_of (X := X) rfl rfl rfl rfl, rfl, S.nd, passes_of (X := X) rfl⟩
    refine ⟨rdS G W fb, hbody X G W ⟨cdv, A, outer, s, H, E, rfl, hr⟩ rfl rfl rfl gd, ?_⟩
    obtain ⟨ft, fl⟩ := fit_start (N := N) (hl.trans ht.symm) (by omega)
    have rel : Rel G H (start N vs) (startE N.length ts) ex := ⟨ft, ⟨fl, fun _ _ => rfl⟩, by
      rw [slots_start (hl.trans ht.symm)]
      exact ro⟩
    refine ⟨_, ex, rel, ?_⟩
    have key : ∀ {σ' : L2.St} {H' : Hp} {e : Env} {us : List T} {l : List (V × T)}, Rel G H' σ' e (l ++ ex) → outs io e = some us → Roots ⟨K, C⟩ H' (l ++ ((ioV io vs).zip us ++ ex)) := by
      intro σ' H' e us l r ho
      obtain ⟨e', r2⟩ := r.outs (vs := ioV io vs) hio ho (by simp [ioV]) fun k j ek => by
        obtain ⟨v, h1, h2⟩ := ioV_get (N := N) (vs := vs) (fun k hk => by rw [hl]; exact hib k hk) k j ek
        exact ⟨v, h1, (r.2.1.2 j (List.mem_of_getElem? ek)).trans h2⟩
      have r3 : Rel G H' σ' e' (l ++ ((ioV io vs).zip us ++ ex)) := r2.perm (perm3 ..)
      exact r3.2.2.drops
    have h : AftF ⟨K, C⟩ Q E io vs ex (finF io (fb (startE N.length ts))) := h
    cases e1 : fb (startE N.length ts) with
    | nx e =>
      rw [e1] at h
      intro σ' H' r
      cases ho : outs io e with
      | none => simp only [finF, ho] at h; exact h.elim
      | some us =>
        simp only [finF, ho] at h
        exact h.2 H' .non (Roots.add (key (l := []) r ho) fun _ => rfl)
    | rt t e =>
      rw [e1] at h
      intro σ' H' v r
      cases ho : outs io e with
      | none => simp only [finF, ho] at h; exact h.elim
      | some us =>
        simp only [finF, ho] at h
        exact h.2 H' v (key (l := [(v, t)]) r ho)
    | bk e => rw [e1] at h; exact h.elim
    | ct e => rw [e1] at h; exact h.elim
    | ex x e =>
      rw [e1] at h
      intro σ'
      cases ho : outs io e with
      | none => simp only [finF, ho] at h; exact h.elim
      | some us =>
        simp only [finF, ho] at h
        have h2 := h.2
        unfold XOk
        unfold XF at h2
        cases ed : x.d with
        | none =>
          rw [ed] at h2
          exact fun H' r => h2 H' (key (l := []) r ho)
        | some p =>
          rw [ed] at h2
          exact fun H' dx r => h2 H' dx (key (l := [_]) r ho)
    | no => rw [e1] at h; exact h.elim
end
/-! ### calls of defs -/
@[simp] def frzA : List (Option Nat) → List T → List T
  | some _ :: s, t :: ts => t :: frzA s ts
  | _ :: s, t :: ts => .fz (frz t) :: frzA s ts
  | [], ts => ts
  | _, [] => []
@[simp] def putJ : List Nat → List T → Env → Env
  | j :: js, t :: ts, e => putJ js ts (e.set j (some t))
  | _, _, e => e
@[simp] def retF (js : List Nat) (e : Env) : RF → R T
  | .ok t us => if us.length = js.length then .ok t (putJ js us e) else .no
  | .ex x us => if us.length = js.length then .ex x (putJ js us e) else .no
  | .no => .no
@[simp] def fCall (m : Mir) (js : List Nat) (src : List (Option Nat)) (fs : M (List T)) (env : Env) : R T := (fs env).bind fun ts e => retF js e (m (frzA src ts))
theorem frzA_len : ∀ {src : List (Option Nat)} {ts : List T}, (frzA src ts).length = ts.length
  | [], _ => rfl
  | some _ :: s, [] => rfl
  | none :: s, [] => rfl
  | some _ :: s, t :: ts => congrArg (· + 1) (frzA_len (src := s) (ts := ts))
  | none :: s, t :: ts => congrArg (· + 1) (frzA_len (src := s) (ts := ts))
theorem Roots.frzA {Z : Wd} {H : Hp} : ∀ {src : List (Option Nat)} {vs : List V} {ts : List T} {rs : List (V × T)}, Roots Z H (vs.zip ts ++ rs) → Roots Z H (vs.zip (frzA src ts) ++ rs)
  | [], _, _, _, h => h
  | _ :: _, [], _, _, h => by simpa using h
  | some _ :: s, v :: vs, [], _, h => by simpa [DL.frzA] using h
  | none :: s, v :: vs, [], _, h => by simpa [DL.frzA] using h
  | some j :: s, v :: vs, t :: ts, rs, h => by
    have h2 : Roots Z H (vs.zip ts ++ ((v, t) :: rs)) := h.perm List.perm_middle.symm
    exact (Roots.frzA (src := s) h2).perm List.perm_middle
  | none :: s, v :: vs, t :: ts, rs, h => by
    have h1 : Roots Z H ((v, .fz (frz t)) :: (vs.zip ts ++ rs)) := Roots.freeze h
    have h2 : Roots Z H (vs.zip ts ++ ((v, .fz (frz t)) :: rs)) := h1.perm List.perm_middle.symm
    exact (Roots.frzA (src := s) h2).perm List.perm_middle
section
variable {G : Sg} {W : WX} {H : Hp} {σ : L2.St} {e : Env} {ex : List (V × T)}
theorem Rel.putJ : ∀ {js : List Nat} {us : List T} {vs : List V} {e : Env}, Rel G H σ e (vs.zip us ++ ex) → vs.length = us.length → js.length = us.length → (∀ (k j : Nat), js[k]? = some j → ∃ v, vs[k]? = some v ∧ σ[j]? = some (some v)) → Rel G H σ (putJ js us e) ex
  | [], [], [], _, r, _, _, _ => r
  | [], [], _ :: _, _, _, h, _, _ => by cases h
  | [], _ :: _, _, _, _, _, h, _ => by cases h
  | _ :: _, [], _, _, _, _, h, _ => by cases h
  | _ :: _, _ :: _, [], _, _, h, _, _ => by cases h
  | j :: js, u :: us, v :: vs, e, r, h1, h2, hv => by
    obtain ⟨v', e1, e2⟩ := hv 0 j rfl
    have e1 : v = v' := Option.some.inj e1
    subst e1
    exact Rel.putJ (js := js) (us := us) (vs := vs) (Rel.put r e2) (Nat.succ.inj h1) (Nat.succ.inj h2) fun k j ek => hv (k + 1) j ek
/-- a promise asked -/
theorem rd_call {m : Mir} {n : Nat} {io js : List Nat} {src : List (Option Nat)} {ts : List T} {vs : List V} {Q : VK} {P : T → Env → Prop} (hP : ∀ t e H' v, P t e → Rel G H' σ e ((v, t) :: ex) → Q v H')
    (r : Rel G H σ e (vs.zip ts ++ ex)) (hl : vs.length = ts.length) (hn : vs.length = n) (hs : src.length = ts.length) (hsrc : ∀ (k j : Nat), src[k]? = some (some j) → ∃ v, vs[k]? = some v ∧ σ[j]? = some (some v))
    (hj : io.map (fun k => src.getD k none) = js.map some) (h : Aft (XOk G W σ ex) P (retF js e (m (frzA src ts)))) : spOf G.Z n io m vs H Q (fun cls d H' => W cls d σ H') := by
  refine ⟨frzA src ts, slots σ e ++ ex, hn, by rw [frzA_len, ← hl]; exact hn, Roots.frzA r.out, ?_⟩
  have jl : js.length = io.length := by have := congrArg List.length hj; simpa using this.symm
  have hv : ∀ (k j : Nat), js[k]? = some j → ∃ v, (ioV io vs)[k]? = some v ∧ σ[j]? = some (some v) := fun k j ek => by
    have e1 : (io.map (fun k => src.getD k none))[k]? = some (some j) := by rw [hj, List.getElem?_map, ek]; rfl
    rw [List.getElem?_map] at e1
    obtain ⟨i, ei, e2⟩ := Option.map_eq_some_iff.mp e1
    have e3 : src[i]? = some (some j) := by
      rw [List.getD_eq_getElem?_getD] at e2
      cases q : src[i]? with
      | none => rw [q] at e2; cases e2
      | some o => rw [q] at e2; exact congrArg some e2
    obtain ⟨v, q1, q2⟩ := hsrc i j e3
    refine ⟨v, ?_, q2⟩
    unfold ioV
    rw [List.getElem?_map, ei]
    show some (vs.getD i .non) = some v
    rw [List.getD_eq_getElem?_getD, q1]
    rfl
  have back : ∀ {H' : Hp} {us : List T} {l : List (V × T)}, us.length = io.length → Roots G.Z H' (l ++ ((ioV io vs).zip us ++ (slots σ e ++ ex))) → Rel G H' σ (DL.putJ js us e) (l ++ ex) := by
    intro H' us l hu q
    have q1 : Rel G H' σ e ((ioV io vs).zip us ++ (l ++ ex)) := r.back (l := (ioV io vs).zip us) (q.perm ((perm3 ..).trans (List.Perm.append_left _ (perm3 ..))))
    exact Rel.putJ q1 (by simp [ioV, hu]) (jl.trans hu.symm) hv
  cases em : m (frzA src ts) with
  | no => rw [em] at h; exact h
  | ok t us =>
    rw [em] at h
    have h : Aft (XOk G W σ ex) P (if us.length = js.length then .ok t (DL.putJ js us e) else .no) := h
    split at h
    · rename_i hu
      exact ⟨hu.trans jl, fun H' v q => hP t _ H' v h (back (l := [(v, t)]) (hu.trans jl) q)⟩
    · exact h.elim
  | ex x us =>
    rw [em] at h
    have h : Aft (XOk G W σ ex) P (if us.length = js.length then .ex x (DL.putJ js us e) else .no) := h
    split at h
    · rename_i hu
      refine ⟨hu.trans jl, ?_⟩
      have h : XOk G W σ ex (DL.putJ js us e) x := h
      unfold XOk at h
      unfold XF
      cases ed : x.d with
      | none =>
        rw [ed] at h
        exact fun H' q => h H' (back (l := []) (hu.trans jl) q)
      | some p =>
        rw [ed] at h
        exact fun H' dx q => h H' dx (back (l := [_]) (hu.trans jl) q)
    · exact h.elim
end
section
variable {X : Cx} {G : Sg} {W : WX} {e : Expr} {es : List Expr} {fs : M (List T)} {src : List (Option Nat)} {k : Nat} {f : Addr} {fd : FuncData} {ps : List Str} {io : List Nat} {m : Mir} {x : Str} {p pos : Pos}
/-- f(e, ..) -/
theorem de_call (F : FnOk X.prog X.w X.K X.mg X.base (L2.CX X.prog X.w) k f fd ps (spOf G.Z ps.length io m)) (hr : Room k X.A) (hg : Gl X x) (hm : X.mg x = some (.ref f)) (hk : PySem.W.keepIn X.K (.ref f) = true) (hb : Binds X.K fd ps []) (js : List Nat)
    (hj : io.map (fun k => src.getD k none) = js.map some) (hsl : src.length = ps.length) (ha : DA X G W (e :: es) src fs) (hdb : (x == ("__debug__" : Str)) = false := by decide) (he : starEach (e :: es) X.env = (false, eval e X.env) :: starEach es X.env := by rfl) (hpl : (backTo pos (starEach es X.env)).any (·.1) = false := by rfl) :
    DE X G W (.Call (.Name x p) (e :: es) [] pos) (fCall m js src fs) := fun gd =>
  (pe_callS F hr hg hm hk hb (fun σ => passAt gd.tk σ) (ha gd) hdb he hpl).imp fun σ H Q ⟨env, ex, r, h⟩ => ⟨env, ex, r, aft_more (l := []) (aft_bind h) fun ts e p H2 vs hl hs hsrc r2 =>
    rd_call (P := fun t e => ∀ H' v, Rel G H' σ e ((v, t) :: ex) → Q v H') (fun t e H' v q r' => q H' v r') r2 hl (by rw [hl, ← hs]; exact hsl) hs hsrc hj p⟩
end
end DL

set_option maxHeartbeats 4000000
namespace DL
open PySem PySem.Spec PyProof.Rows L2
section
variable {X : Cx} {Z : Wd}
theorem OpD.or {f : Value → Value → Sem Value} {g k : D → D → Option T} (h1 : OpD X Z f g) (h2 : OpD X Z f k) : OpD X Z f (fun a b => (g a b).or (k a b)) := by
  obtain ⟨r, a1, b1⟩ := h1
  obtain ⟨q, a2, b2⟩ := h2
  refine ⟨_, a1.or a2, fun H rs v1 v2 d1 d2 t Q ro h k => ?_⟩
  dsimp only at h
  cases e : g d1 d2 with
  | some t' =>
    rw [e] at h
    cases h
    exact .inl (b1 H rs v1 v2 d1 d2 _ Q ro e k)
  | none =>
    rw [e] at h
    exact .inr (b2 H rs v1 v2 d1 d2 _ Q ro h k)
theorem Roots.drop2 {H : Hp} {r q : V × T} {rs : List (V × T)} (h : Roots Z H (r :: q :: rs)) : Roots Z H rs := h.drop.drop
theorem Roots.pair {H : Hp} {v1 v2 : V} {d1 d2 : D} {rs : List (V × T)} (h : Roots Z H ((v2, .fz d2) :: (v1, .fz d1) :: rs)) : Rp Z H v1 d1 ∧ Rp Z H v2 d2 := ⟨h.drop.fz, h.fz⟩
/-- two ints under a condition -/
@[simp] def gI (c : Int → Int → Bool) (g : Int → Int → D) : D → D → Option T
  | .int i, .int j => if c i j = true then some (.fz (g i j)) else none
  | _, _ => none
theorem opd_I {f : Value → Value → Sem Value} {C : Int → Int → Prop} {c : Int → Int → Bool} {g : Int → Int → D} {gv : Int → Int → V} (h : OpR X f (rI C gv)) (hc : ∀ i j, c i j = true → C i j) (hg : ∀ i j F, Rp Z F (gv i j) (g i j)) : OpD X Z f (gI c g) := by
  refine ⟨_, h, fun H rs v1 v2 d1 d2 t Q ro e k => ?_⟩
  obtain ⟨p1, p2⟩ := ro.pair
  unfold gI at e
  split at e
  · rename_i i j
    split at e
    · rename_i hcc
      cases e
      exact ⟨i, j, p1, p2, hc i j hcc, k H _ (Roots.add ro.drop2 (hg i j))⟩
    · cases e
  · cases e
@[simp] def gI0 (g : Int → Int → D) : D → D → Option T
  | .int i, .int j => some (.fz (g i j))
  | _, _ => none
theorem opd_I0 {f : Value → Value → Sem Value} {g : Int → Int → D} {gv : Int → Int → V} (h : OpR X f (rI0 gv)) (hg : ∀ i j F, Rp Z F (gv i j) (g i j)) : OpD X Z f (gI0 g) := by
  refine ⟨_, h, fun H rs v1 v2 d1 d2 t Q ro e k => ?_⟩
  obtain ⟨p1, p2⟩ := ro.pair
  unfold gI0 at e
  split at e
  · rename_i i j
    cases e
    exact ⟨i, j, p1, p2, k H _ (Roots.add ro.drop2 (hg i j))⟩
  · cases e
theorem od_addI : OpD X Z (binaryOp .Add) (gI0 fun i j => .int (i + j)) := opd_I0 op_add fun _ _ _ => rfl
theorem od_sub : OpD X Z (binaryOp .Sub) (gI0 fun i j => .int (i - j)) := opd_I0 op_sub fun _ _ _ => rfl
theorem iod_addI : OpD X Z (inplaceOp .Add) (gI0 fun i j => .int (i + j)) := opd_I0 iop_add fun _ _ _ => rfl
theorem iod_sub : OpD X Z (inplaceOp .Sub) (gI0 fun i j => .int (i - j)) := opd_I0 iop_sub fun _ _ _ => rfl
/-- the size of a number: its bits -/
def sz (i : Int) : Nat := i.natAbs.log2
def mulOk (i j : Int) : Bool := decide (sz i + sz j < 134000000)
theorem mulOk_ok {i j : Int} (h : mulOk i j = true) : IntMulOk i j := by
  have h : sz i + sz j < 134000000 := of_decide_eq_true h
  have b : ∀ x : Int, Builtin.Int.intBits x ≤ sz x + 1 := fun x => by
    unfold Builtin.Int.intBits sz
    split <;> omega
  have h1 := b i
  have h2 := b j
  have e : bitsLine = 134217728 := by decide
  unfold IntMulOk
  intro z
  rw [Bool.and_eq_true] at z
  have z2 := z.2
  unfold Builtin.Int.intTooBig at z2
  have z3 := of_decide_eq_true z2
  rw [e] at z3
  omega
theorem od_mulI : OpD X Z (binaryOp .Mult) (gI mulOk fun i j => .int (i * j)) := opd_I (C := fun i j => mulOk i j = true) (opI fun _ _ _ _ _ _ _ hc q => mul_int q (mulOk_ok hc)) (fun _ _ h => h) fun _ _ _ => rfl
def divOk (_ j : Int) : Bool := decide (j ≠ 0 ∧ sz j < 9000)
theorem od_fdiv : OpD X Z (binaryOp .FloorDiv) (gI divOk fun i j => .int (i.fdiv j)) := opd_I (C := fun i j => j ≠ 0 ∧ sz j < 9000) (opI fun _ _ _ _ _ _ _ hc q => floordiv_int hc.1 q (.inl (PyProof.noPylong_of_log2 hc.2))) (fun _ _ h => of_decide_eq_true h) fun _ _ _ => rfl
theorem od_mod : OpD X Z (binaryOp .Mod) (gI (fun _ j => decide (j ≠ 0)) fun i j => .int (i.fmod j)) := opd_I op_modN (fun _ _ h => of_decide_eq_true h) fun _ _ _ => rfl
def powOk (i j : Int) : Bool := decide (0 ≤ j ∧ j ≤ 1000000 ∧ i.natAbs < 2 ^ 64)
theorem od_pow : OpD X Z (binaryOp .Pow) (gI powOk fun i j => .int (i ^ j.toNat)) := opd_I op_pow (fun i j h => show 0 ≤ j ∧ j ≤ 1000000 ∧ i.natAbs < 2 ^ 64 from of_decide_eq_true h) fun _ _ _ => rfl
theorem od_lt : OpD X Z (compareOp .Lt) (gI0 fun i j => .bl (decide (i < j))) := opd_I0 op_lt fun _ _ _ => rfl
theorem od_le : OpD X Z (compareOp .LtE) (gI0 fun i j => .bl (decide (i ≤ j))) := opd_I0 op_le fun _ _ _ => rfl
theorem od_gt : OpD X Z (compareOp .Gt) (gI0 fun i j => .bl (decide (j < i))) := opd_I0 op_gt fun _ _ _ => rfl
theorem od_ge : OpD X Z (compareOp .GtE) (gI0 fun i j => .bl (decide (j ≤ i))) := opd_I0 op_ge fun _ _ _ => rfl
/-- == of scalars -/
@[simp] def eqS : D → D → Option Bool
  | .int i, .int j => some (decide (i = j))
  | .bl i, .bl j => some (decide (i = j))
  | .str i, .str j => some (decide (i = j))
  | .non, .non => some true
  | .non, .int _ => some false
  | .int _, .non => some false
  | .non, .bl _ => some false
  | .bl _, .non => some false
  | .non, .str _ => some false
  | .str _, .non => some false
  | .int _, .str _ => some false
  | .str _, .int _ => some false
  | .bl _, .str _ => some false
  | .str _, .bl _ => some false
  | _, _ => none
@[simp] def gEqS (neg : Bool) : D → D → Option T := fun a b => (eqS a b).map fun k => .fz (.bl (if neg then !k else k))
theorem eqS_ok {H : Hp} {v1 v2 : V} {d1 d2 : D} {k : Bool} (p1 : Rp Z H v1 d1) (p2 : Rp Z H v2 d2) (e : eqS d1 d2 = some k) : scal v1 v2 = true ∧ decide (v1 = v2) = k := by
  unfold eqS at e
  split at e <;> first
    | (cases e; cases p1; cases p2; exact ⟨rfl, by simp⟩)
    | cases e
theorem od_eqS : OpD X Z (compareOp .Eq) (gEqS false) := by
  refine ⟨_, op_eq, fun H rs v1 v2 d1 d2 t Q ro e k => ?_⟩
  obtain ⟨p1, p2⟩ := ro.pair
  obtain ⟨b, e1, rfl⟩ := Option.map_eq_some_iff.mp e
  obtain ⟨h1, h2⟩ := eqS_ok p1 p2 e1
  refine ⟨h1, ?_⟩
  rw [h2]
  exact k H _ (Roots.add ro.drop2 fun _ => rfl)
theorem od_neS : OpD X Z (compareOp .NotEq) (gEqS true) := by
  refine ⟨_, op_ne, fun H rs v1 v2 d1 d2 t Q ro e k => ?_⟩
  obtain ⟨p1, p2⟩ := ro.pair
  obtain ⟨b, e1, rfl⟩ := Option.map_eq_some_iff.mp e
  obtain ⟨h1, h2⟩ := eqS_ok p1 p2 e1
  refine ⟨h1, ?_⟩
  rw [h2]
  exact k H _ (Roots.add ro.drop2 fun _ => rfl)
@[simp] def gNeg : D → Option T
  | .int i => some (.fz (.int (-i)))
  | _ => none
theorem ud_neg : UnD X Z (unaryOp .USub) gNeg := by
  refine ⟨_, un_neg, fun H rs v d t Q ro e k => ?_⟩
  unfold gNeg at e
  split at e
  · rename_i i
    cases e
    exact ⟨i, ro.fz, k H _ (Roots.add ro.drop fun _ => rfl)⟩
  · cases e
/-! ### built-ins -/
theorem Roots.args1 {H : Hp} {vs : List V} {d : D} {rs : List (V × T)} (h : Roots Z H (vs.zip ([d].map T.fz) ++ rs)) (hl : vs.length = [d].length) : ∃ v, vs = [v] ∧ Roots Z H ((v, .fz d) :: rs) := by
  rcases vs with _ | ⟨v, _ | ⟨w, vs⟩⟩
  · cases hl
  · exact ⟨v, rfl, h⟩
  · cases hl
theorem Roots.args2 {H : Hp} {vs : List V} {d d' : D} {rs : List (V × T)} (h : Roots Z H (vs.zip ([d, d'].map T.fz) ++ rs)) (hl : vs.length = [d, d'].length) : ∃ v w, vs = [v, w] ∧ Roots Z H ((v, .fz d) :: (w, .fz d') :: rs) := by
  rcases vs with _ | ⟨v, _ | ⟨w, _ | ⟨x, vs⟩⟩⟩
  · cases hl
  · cases hl
  · exact ⟨v, w, rfl, h⟩
  · cases hl
@[simp] def g1 (g : D → Option T) : List D → Option T
  | [d] => g d
  | _ => none
@[simp] def g2 (g : D → D → Option T) : List D → Option T
  | [d, e] => g d e
  | _ => none
theorem cd_1 {f : Value} {r : List V → Hp → VK → Prop} {g : D → Option T} (h : CallR X f r) (k : ∀ (H : Hp) (rs : List (V × T)) (v : V) (d : D) (t : T) (Q : VK), Roots Z H ((v, .fz d) :: rs) → g d = some t → (∀ H' v, Roots Z H' ((v, t) :: rs) → Q v H') → r [v] H Q) : CallD X Z f (g1 g) := by
  refine ⟨r, h, fun H rs vs ds t Q ro hl e q => ?_⟩
  unfold g1 at e
  split at e
  · obtain ⟨v, rfl, ro'⟩ := ro.args1 hl
    exact k H rs v _ t Q ro' e q
  · cases e
theorem cd_2 {f : Value} {r : List V → Hp → VK → Prop} {g : D → D → Option T} (h : CallR X f r) (k : ∀ (H : Hp) (rs : List (V × T)) (v w : V) (d d' : D) (t : T) (Q : VK), Roots Z H ((v, .fz d) :: (w, .fz d') :: rs) → g d d' = some t → (∀ H' v, Roots Z H' ((v, t) :: rs) → Q v H') → r [v, w] H Q) : CallD X Z f (g2 g) := by
  refine ⟨r, h, fun H rs vs ds t Q ro hl e q => ?_⟩
  unfold g2 at e
  split at e
  · obtain ⟨v, w, rfl, ro'⟩ := ro.args2 hl
    exact k H rs v w _ _ t Q ro' e q
  · cases e
@[simp] def gLen : D → Option T
  | .lst xs => some (.fz (.int xs.length))
  | .tup xs => some (.fz (.int xs.length))
  | .str y => if y.length ≤ sizeLine then some (.fz (.int y.length)) else none
  | _ => none
theorem cd_len (hK : Z.K = X.K) : CallD X Z (.builtin "len") (g1 gLen) := cd_1 call_len fun H rs v d t Q ro e k => by
  have p := ro.fz
  unfold gLen at e
  split at e
  · obtain ⟨a, vs, rfl, q, r⟩ := p
    cases e
    refine ⟨_, vs.length, rfl, .inl ⟨vs, by rw [← hK]; exact q, rfl⟩, ?_⟩
    rw [r.length]
    exact k H _ (Roots.add ro.drop fun _ => rfl)
  · obtain ⟨a, vs, rfl, q, r⟩ := p
    cases e
    refine ⟨_, vs.length, rfl, .inr ⟨vs, by rw [← hK]; exact q, rfl⟩, ?_⟩
    rw [r.length]
    exact k H _ (Roots.add ro.drop fun _ => rfl)
  · split at e
    · rename_i y hy
      cases e
      cases p
      exact ⟨_, y.length, rfl, ⟨hy, rfl⟩, k H _ (Roots.add ro.drop fun _ => rfl)⟩
    · cases e
  · cases e
@[simp] def gAbs : D → Option T
  | .int i => some (.fz (.int (if i < 0 then -i else i)))
  | _ => none
theorem cd_abs : CallD X Z (.builtin "abs") (g1 gAbs) := cd_1 call_abs fun H rs v d t Q ro e k => by
  unfold gAbs at e
  split at e
  · cases e
    exact ⟨_, congrArg (fun x => [x]) ro.fz, k H _ (Roots.add ro.drop fun _ => rfl)⟩
  · cases e
@[simp] def gInt : D → Option T
  | .int i => some (.fz (.int i))
  | .bl b => some (.fz (.int (if b then 1 else 0)))
  | _ => none
theorem cd_int : CallD X Z (.type "int") (g1 gInt) := cd_1 call_int1 fun H rs v d t Q ro e k => by
  unfold gInt at e
  split at e
  · cases e
    exact .inl ⟨_, congrArg (fun x => [x]) ro.fz, k H _ (Roots.add ro.drop fun _ => rfl)⟩
  · cases e
    exact .inr ⟨_, congrArg (fun x => [x]) ro.fz, k H _ (Roots.add ro.drop fun _ => rfl)⟩
  · cases e
end
end DL

set_option maxHeartbeats 4000000
namespace DL
open PySem PySem.Spec PyProof.Rows L2
section
variable {X : Cx} {G : Sg} {W : WX} {Z : Wd} {a b c e : Expr} {es : List Expr} {fa fb fc : M T} {fs : M (List T)} {src : List (Option Nat)} {pos : Pos}
/-! ### subscripts -/
theorem Rps.atI {F : Hp} {vs : List V} {ds : List D} {i : Int} {d : D} (r : Rps Z F vs ds) (h : L2.atI ds i = some d) : ∃ v, L2.atI vs i = some v ∧ Rp Z F v d := by
  unfold L2.atI at h ⊢
  rw [r.length]
  obtain ⟨j, h1, h2⟩ := Option.bind_eq_some_iff.mp h
  obtain ⟨v, e, q⟩ := r.get h2
  exact ⟨v, by rw [h1]; exact e, q⟩
@[simp] def gIx : D → D → Option T
  | .lst ds, .int i => (atI ds i).map T.fz
  | .tup ds, .int i => (atI ds i).map T.fz
  | .str z, .int i => if z.length ≤ sizeLine then (atI z.cps.toList i).map fun c => T.fz (.str ⟨#[c]⟩) else none
  | _, _ => none
/-- a child of a frozen root -/
theorem Roots.kid {H : Hp} {v : V} {d : D} {rs : List (V × T)} (h : Roots Z H ((v, .fz d) :: rs)) {w : V} {d' : D} (k : ∀ F, Rp Z F v d → Same F H → Rp Z F w d') : Roots Z H ((w, .fz d') :: rs) := by
  obtain ⟨F, _, s, ⟨f1, f2, o1, o2, rfl⟩, n, q⟩ := h
  have e : f1 = [] := o1.2
  subst e
  exact ⟨F, f2, s, ⟨[], f2, ⟨k F o1.1 s, rfl⟩, o2, rfl⟩, n, q⟩
theorem Roots.kidL {H : Hp} {v : V} {ds : List D} {i : Int} {d : D} {rs : List (V × T)} (h : Roots Z H ((v, .fz (.lst ds)) :: rs)) (e : L2.atI ds i = some d) : ∃ p vs w, v = .ref p ∧ SqL Z.K H p vs ∧ L2.atI vs i = some w ∧ Roots Z H ((w, .fz d) :: rs) := by
  obtain ⟨F, _, s, ⟨f1, f2, ⟨⟨p, vs, ev, q, r⟩, e1⟩, o2, rfl⟩, n, k⟩ := h
  subst e1
  obtain ⟨w, ew, rw'⟩ := r.atI e
  exact ⟨p, vs, w, ev, s.seq q, ew, F, f2, s, ⟨[], f2, ⟨rw', rfl⟩, o2, rfl⟩, n, k⟩
theorem Roots.kidT {H : Hp} {v : V} {ds : List D} {i : Int} {d : D} {rs : List (V × T)} (h : Roots Z H ((v, .fz (.tup ds)) :: rs)) (e : L2.atI ds i = some d) : ∃ p vs w, v = .ref p ∧ SqT Z.K H p vs ∧ L2.atI vs i = some w ∧ Roots Z H ((w, .fz d) :: rs) := by
  obtain ⟨F, _, s, ⟨f1, f2, ⟨⟨p, vs, ev, q, r⟩, e1⟩, o2, rfl⟩, n, k⟩ := h
  subst e1
  obtain ⟨w, ew, rw'⟩ := r.atI e
  exact ⟨p, vs, w, ev, same_t s q, ew, F, f2, s, ⟨[], f2, ⟨rw', rfl⟩, o2, rfl⟩, n, k⟩
theorem gIx_ok {H : Hp} {v y : V} {d k : D} {t : T} {rs : List (V × T)} {Q : VK} (ro : Roots Z H ((v, .fz d) :: rs)) (ry : Rp Z H y k) (h : gIx d k = some t) (q : ∀ v, Roots Z H ((v, t) :: rs) → Q v H) : rIx Z.K v y H Q := by
  unfold gIx at h
  split at h
  · rename_i ds i
    obtain ⟨d', h1, rfl⟩ := Option.map_eq_some_iff.mp h
    obtain ⟨p, vs, w, ev, hq, hw, ro'⟩ := ro.kidL h1
    exact .inl ⟨p, vs, i, w, ev, ry, hq, hw, q w ro'⟩
  · rename_i ds i
    obtain ⟨d', h1, rfl⟩ := Option.map_eq_some_iff.mp h
    obtain ⟨p, vs, w, ev, hq, hw, ro'⟩ := ro.kidT h1
    exact .inr (.inl ⟨p, vs, i, w, ev, ry, hq, hw, q w ro'⟩)
  · rename_i z i
    split at h
    · rename_i hz
      obtain ⟨cc, h1, rfl⟩ := Option.map_eq_some_iff.mp h
      exact .inr (.inr ⟨z, i, cc, ro.fz, ry, hz, h1, q _ (Roots.add ro.drop fun _ => rfl)⟩)
    · cases h
  · cases h
theorem de_ix (ha : DE X G W a fa) (hb : DE X G W b fb) (hs : PlainIx b := by exact fun _ _ => rfl) : DE X G W (.Subscript a b pos) (fBin gIx fa fb) := fun gd =>
  (pe_ix ix_seq (ha gd) (hb gd) hs).imp (rd_bin fun H rs v1 v2 d1 d2 t Q ro h k => by
    rw [← gd.hK]
    exact gIx_ok (ro.drop : Roots G.Z H ((v1, .fz d1) :: rs)) ro.fz h fun v q => k H v q)
/-- x[i] of a slot's list: the list is not frozen -/
@[simp] def peekT : T → D → Option T
  | .lst ts, .int i => match atI ts i with
    | some (.fz d) => some (.fz d)
    | _ => none
  | .fz d, k => gIx d k
  | _, _ => none
@[simp] def peekS (i : Nat) (e : Env) (k : D) : R T := match e[i]? with
  | some (some t) => ofO e (peekT t k)
  | _ => .no
@[simp] def fPeek (i : Nat) (fb : M T) (env : Env) : R T := match env[i]? with
  | some (some _) => (fb env).bind fun k e => peekS i e (frz k)
  | _ => .no
theorem Owns.get : ∀ {F H : Hp} {vs : List V} {ts : List T} {fp : List Addr} {j : Nat} {t : T}, Owns Z F H vs ts fp → ts[j]? = some t → ∃ v f, vs[j]? = some v ∧ Own Z F H v t f
  | F, H, [], [], _, _, _, _, e => by simp at e
  | F, H, v :: vs, t :: ts, _, 0, u, h, e => by
    obtain ⟨f1, f2, h1, h2, rfl⟩ := h
    have e : t = u := Option.some.inj e
    subst e
    exact ⟨v, f1, rfl, h1⟩
  | F, H, v :: vs, t :: ts, _, j + 1, u, h, e => by
    obtain ⟨f1, f2, h1, h2, rfl⟩ := h
    exact Owns.get (j := j) h2 e
  | _, _, [], _ :: _, _, _, _, h, _ => h.elim
  | _, _, _ :: _, [], _, _, _, h, _ => h.elim
theorem Roots.peek {H : Hp} {v : V} {ts : List T} {j : Nat} {d : D} {rs : List (V × T)} (h : Roots Z H ((v, .lst ts) :: rs)) (e : ts[j]? = some (.fz d)) : ∃ p vs w, v = .ref p ∧ H p = some (.lst vs) ∧ vs.length = ts.length ∧ vs[j]? = some w ∧ Roots Z H ((w, .fz d) :: (v, .lst ts) :: rs) := by
  obtain ⟨F, f, s, o, n, q⟩ := h
  obtain ⟨_, f2, ⟨p, vs, f1, e1, e2, o1, rfl⟩, o2, rfl⟩ := id o
  obtain ⟨w, fw, ew, ow⟩ := o1.get e
  exact ⟨p, vs, w, e1, e2, o1.length, ew, F, _, s, ⟨[], _, ⟨ow.1, rfl⟩, o, rfl⟩, n, q⟩
theorem peekT_ok {H : Hp} {v y : V} {t u : T} {k : D} {rs : List (V × T)} {Q : VK} (ro : Roots Z H ((v, t) :: rs)) (ry : Rp Z H y k) (h : peekT t k = some u) (q : ∀ w, Roots Z H ((w, u) :: (v, t) :: rs) → Q w H) : rIx Z.K v y H Q := by
  unfold peekT at h
  split at h
  · rename_i ts i
    split at h
    · rename_i d et
      cases h
      unfold L2.atI at et
      obtain ⟨j, e1, e2⟩ := Option.bind_eq_some_iff.mp et
      obtain ⟨p, vs, w, ev, hp, hl, ew, ro'⟩ := ro.peek e2
      refine .inl ⟨p, vs, i, w, ev, ry, SqL.of hp, ?_, q w ro'⟩
      unfold L2.atI
      rw [hl, e1]
      exact ew
    · cases h
  · exact gIx_ok ro.dup ry h fun w ro' => q w ro'
  · cases h
theorem de_peek {i : Nat} {x : Str} {p : Pos} (hN : X.N[i]? = some x) (hv : Vis X.env.scope x) (hb : DE X G W b fb) (hs : PlainIx b := by exact fun _ _ => rfl) (hd : (x == ("__debug__" : Str)) = false := by decide) (hcd : (x == ("__classdict__" : Str)) = false := by decide) :
    DE X G W (.Subscript (.Name x p) b pos) (fPeek i fb) := fun gd =>
  (pe_ix ix_seq (pe_var hN hv hd hcd) (hb gd) hs).imp fun σ H Q ⟨env, ex, r, h⟩ => by
    unfold fPeek at h
    split at h
    · rename_i t0 et0
      obtain ⟨v, ev⟩ := r.1.2 i t0 et0
      refine ⟨v, ev, rd_then r h fun H' y k e r' h' => ?_⟩
      unfold peekS at h'
      split at h'
      · rename_i t et
        cases e1 : peekT t (frz k) with
        | none => rw [e1] at h'; exact h'.elim
        | some u =>
          rw [e1] at h'
          obtain ⟨v', ev', r1⟩ := r'.freeze.take et
          rw [ev] at ev'
          cases ev'
          have ry : Rp G.Z H' y (frz k) := r'.freeze.out1.fz
          have ro : Roots G.Z H' ((v, t) :: (slots σ (e.set i none) ++ ex)) := r1.drop2.out1
          rw [← gd.hK]
          refine peekT_ok ro ry e1 fun w ro' => h' H' w ?_
          have r2 : Rel G H' σ (e.set i none) ((w, u) :: (v, t) :: ex) := r1.back (l := [(w, u), (v, t)]) ro'
          have r3 := (r2.perm (.swap ..)).put ev
          rw [List.set_set, set_self et] at r3
          exact r3
      · exact h'.elim
    · exact h.elim
/-! ### x[i] = e for a slot's own list -/
@[simp] def sPutAt (i : Nat) (t : T) (k : D) (e : Env) : Option Env := match e[i]?, k with
  | some (some (.lst ts)), .int n => (ixN ts.length n).map fun j => e.set i (some (.lst (ts.set j t)))
  | _, _ => none
@[simp] def sPut (i : Nat) (fb : M T) (t : T) (env : Env) : Option Env := match env[i]? with
  | some (some _) => (match fb env with
    | .ok k e => sPutAt i t (frz k) e
    | _ => none)
  | _ => none
theorem perm_set {α : Type} {l rs : List α} {j : Nat} {x : α} (h : j < l.length) : ∃ y, (l ++ x :: rs).Perm (l.set j x ++ y :: rs) := by
  induction l generalizing j with
  | nil => simp at h
  | cons z l ih =>
    cases j with
    | zero =>
      refine ⟨z, ?_⟩
      show (z :: (l ++ x :: rs)).Perm (x :: (l ++ z :: rs))
      exact (List.perm_middle.cons z).trans ((List.Perm.swap x z _).trans (List.perm_middle.symm.cons x))
    | succ j =>
      obtain ⟨y, p⟩ := ih (j := j) (by simpa using h)
      exact ⟨y, p.cons z⟩
theorem zip_set {α β : Type} : ∀ {vs : List α} {ts : List β} {j : Nat} {v : α} {t : β}, vs.length = ts.length → (vs.set j v).zip (ts.set j t) = (vs.zip ts).set j (v, t)
  | [], [], _, _, _, _ => rfl
  | _ :: _, _ :: _, 0, _, _, _ => rfl
  | _ :: vs, _ :: ts, j + 1, v, t, h => by
    have ih := zip_set (vs := vs) (ts := ts) (j := j) (v := v) (t := t) (Nat.succ.inj h)
    simp [ih]
  | [], _ :: _, _, _, _, h => by cases h
  | _ :: _, [], _, _, _, h => by cases h
theorem Roots.setL {H : Hp} {p : Addr} {ws : List V} {us : List T} {j : Nat} {v : V} {t : T} {rs : List (V × T)} (h : Roots Z H ((.ref p, .lst us) :: (v, t) :: rs)) (hw : H p = some (.lst ws)) (hl : ws.length = us.length) (hj : j < us.length) :
    Roots Z (upd H p (.lst (ws.set j v))) ((.ref p, .lst (us.set j t)) :: rs) := by
  obtain ⟨y, pm⟩ := perm_set (l := ws.zip us) (rs := rs) (j := j) (x := (v, t)) (by simp [hl]; exact hj)
  have q := Roots.putL (qs := y :: rs) h hw (vs := ws.set j v) (ts := us.set j t) (by simpa using hl) (by rw [zip_set hl]; exact pm)
  exact (q.perm (.swap ..)).drop
theorem dg_put {i : Nat} {x : Str} {p : Pos} (hN : X.N[i]? = some x) (hv : Vis X.env.scope x) (hb : DE X G W b fb) (ha : ∀ v, assign (.Subscript (.Name x p) b pos) X.env v = (do
      let ov ← holding [v] (eval (.Name x p) X.env)
      let iv ← holding [v, ov] (eval b X.env)
      standAt pos
      holding [v, ov, iv] (setItem ov iv v)
      release [v, ov, iv] []) := by intro _; rfl) (hd : (x == ("__debug__" : Str)) = false := by decide) (hcd : (x == ("__classdict__" : Str)) = false := by decide) :
    DG X G W (.Subscript (.Name x p) b pos) [] (sPut i fb) := fun gd =>
  (pg_sub (pe_var hN hv hd hcd) (hb gd) set_list ha).imp fun v σ H Q ⟨env, ex, t, r, e, he, h⟩ => by
    unfold sPut at he
    split at he
    · rename_i t0 et0
      obtain ⟨o, eo⟩ := r.1.2 i t0 et0
      refine ⟨o, eo, env, (v, t) :: ex, r, ?_⟩
      split at he
      · rename_i k e1 ek
        rw [ek]
        intro H' y r'
        unfold sPutAt at he
        split at he
        · rename_i ts n et en
          obtain ⟨j, ej, rfl⟩ := Option.map_eq_some_iff.mp he
          have ry : y = .int n := by
            have z := r'.freeze.out1.fz
            rw [en] at z
            exact z
          obtain ⟨o', eo', r1⟩ := r'.drop.take et
          rw [eo] at eo'
          cases eo'
          obtain ⟨pp, ws, eq, hp, hl⟩ := r1.out1.lst
          subst eq
          refine ⟨pp, ws, n, j, rfl, ry, hp, by rw [hl]; exact ej, h σ _ (Off.refl ..) ?_⟩
          have ro := Rel.out (l := [(V.ref pp, T.lst ts), (v, t)]) r1
          have r2 : Rel G _ σ (e1.set i none) ((.ref pp, .lst (ts.set j t)) :: ex) := r1.back1 (Roots.setL ro hp hl (ixN_seq ej).2.1)
          have r3 := r2.put eo
          rw [List.set_set] at r3
          exact r3
        · cases he
      · cases he
    · cases he
/-! ### x.append(e) for a slot's own list -/
@[simp] def apS (i : Nat) (t : T) (e : Env) : R T := match e[i]? with
  | some (some (.lst ts)) => if ts.length < sizeLine then .ok (.fz .non) (e.set i (some (.lst (ts ++ [t])))) else .no
  | _ => .no
@[simp] def fAppend (i : Nat) (fa : M T) (env : Env) : R T := match env[i]? with
  | some (some (.lst _)) => (fa env).bind fun t e => apS i t e
  | _ => .no
theorem Roots.appL {H : Hp} {p : Addr} {ws : List V} {us : List T} {v : V} {t : T} {rs : List (V × T)} (h : Roots Z H ((.ref p, .lst us) :: (v, t) :: rs)) (hw : H p = some (.lst ws)) (hl : ws.length = us.length) :
    Roots Z (upd H p (.lst (ws ++ [v]))) ((.ref p, .lst (us ++ [t])) :: rs) := by
  refine Roots.putL h hw (by simp [hl]) ?_
  rw [List.zip_append hl]
  simp
theorem de_append {i : Nat} {x : Str} {p apos : Pos} (hN : X.N[i]? = some x) (hv : Vis X.env.scope x) (ha : DE X G W a fa) (hd : (x == ("__debug__" : Str)) = false := by decide) (hcd : (x == ("__classdict__" : Str)) = false := by decide)
    (hsa : starEach [a] X.env = (false, eval a X.env) :: starEach [] X.env := by rfl) (hbase : attributeBase (.Name x p) "append" X.env (eval (.Name x p) X.env) = eval (.Name x p) X.env := by rfl)
    (hfew : ((backTo pos (starEach [a] X.env)).all (fun x => !x.1) && (backToKw pos (keywordEach [] X.env)).all (fun x => x.1.isSome)
      && decide ([a].length + ([] : List Keyword).length + (if ([] : List Keyword).isEmpty then 0 else 1) < 30)) = true := by rfl)
    (hline : (apos.endLine == pos.line) = true := by rfl) :
    DE X G W (.Call (.Attribute (.Name x p) "append" apos) [a] [] pos) (fAppend i fa) := fun gd =>
  (pe_bm PySem.F.plainAttrs_list PySem.F.slot_list_append PySem.F.type_list_append mt_append (pe_var hN hv hd hcd) (pa_cons (ha gd) pa_nil hsa) hbase hfew hline hsa).imp fun σ H Q ⟨env, ex, r, h⟩ => by
    unfold fAppend at h
    split at h
    · rename_i ts0 et0
      obtain ⟨v, ev⟩ := r.1.2 i _ et0
      obtain ⟨v', ev', r0⟩ := r.take et0
      rw [ev] at ev'
      cases ev'
      obtain ⟨p0, vs0, e0, hp0, _⟩ := r0.out1.lst
      subst e0
      refine ⟨_, ev, .inl ⟨rfl, vs0, SqL.of hp0⟩, rd_then r h fun H' y t e r' h' => ?_⟩
      unfold apS at h'
      split at h'
      · rename_i ts et
        split at h'
        · rename_i hz
          obtain ⟨o', eo', r1⟩ := r'.take et
          rw [ev] at eo'
          cases eo'
          obtain ⟨pp, ws, eq, hp, hl⟩ := r1.out1.lst
          cases eq
          refine ⟨_, ws, y, rfl, rfl, hp, by rw [hl]; exact hz, h' _ _ ?_⟩
          have ro := Rel.out (l := [(V.ref p0, T.lst ts), (y, t)]) r1
          have r2 : Rel G _ σ (e.set i none) ((.ref p0, .lst (ts ++ [t])) :: ex) := r1.back1 (Roots.appL ro hp hl)
          have r3 := r2.put ev
          rw [List.set_set] at r3
          exact r3.back1 (Roots.add r3.2.2 fun _ => rfl)
        · exact h'.elim
      · exact h'.elim
    · exact h.elim
end
end DL

set_option maxHeartbeats 4000000
namespace DL
open PySem PySem.Spec PyProof.Rows L2
section
variable {X : Cx} {G : Sg} {W : WX} {Z : Wd} {a b c e : Expr} {es : List Expr} {fa fb fc : M T} {fs : M (List T)} {src : List (Option Nat)} {pos : Pos}
/-! ### what is walked -/
@[simp] def seqD : D → Option (List D)
  | .lst ds => some ds
  | .tup ds => some ds
  | _ => none
@[simp] def ofL (e : Env) : Option (List D) → R (List D)
  | some ds => .ok ds e
  | none => .no
@[simp] def iSeq (f : M T) (env : Env) : R (List D) := (f env).bind fun t e => ofL e (seqD (frz t))
theorem dwalk_list {v : V} {ds : List D} {p : Addr} (ev : v = .ref p) : DWalk Z (Itl Z.K p) [(v, .fz (.lst ds))] ds where
  go := fun i H rs hi ro => by
    obtain ⟨q, vs, e, s, r⟩ := ro.fz
    rw [ev] at e
    cases e
    obtain ⟨w, ew, _⟩ := r.get (List.getElem?_eq_getElem hi)
    exact ⟨vs, w, s, ew⟩
  stop := fun H rs ro => by
    obtain ⟨q, vs, e, s, r⟩ := ro.fz
    rw [ev] at e
    cases e
    exact ⟨vs, s, by rw [r.length]; exact Nat.le_refl _⟩
  yld := fun i H H' x rs d hd ro y => by
    obtain ⟨rfl, hy⟩ := y
    refine Roots.kid (Roots.dup ro) fun F r s => ?_
    obtain ⟨q, vs, e, sq, r⟩ := r
    rw [ev] at e
    cases e
    obtain ⟨w, ew, rw'⟩ := r.get hd
    rw [hy vs (s.seq sq)] at ew
    cases ew
    exact rw'
theorem dwalk_tup {v : V} {ds : List D} {p : Addr} (ev : v = .ref p) : DWalk Z (Itt Z.K p) [(v, .fz (.tup ds))] ds where
  go := fun i H rs hi ro => by
    obtain ⟨q, vs, e, s, r⟩ := ro.fz
    rw [ev] at e
    cases e
    obtain ⟨w, ew, _⟩ := r.get (List.getElem?_eq_getElem hi)
    exact ⟨vs, w, s, ew⟩
  stop := fun H rs ro => by
    obtain ⟨q, vs, e, s, r⟩ := ro.fz
    rw [ev] at e
    cases e
    exact ⟨vs, s, by rw [r.length]; exact Nat.le_refl _⟩
  yld := fun i H H' x rs d hd ro y => by
    obtain ⟨rfl, hy⟩ := y
    refine Roots.kid (Roots.dup ro) fun F r s => ?_
    obtain ⟨q, vs, e, sq, r⟩ := r
    rw [ev] at e
    cases e
    obtain ⟨w, ew, rw'⟩ := r.get hd
    rw [hy vs (same_t s sq)] at ew
    cases ew
    exact rw'
theorem di_seq {tg : Expr} (ha : DE X G W a fa) : DI X G W tg a (iSeq fa) := fun gd =>
  ((pi_list (ha gd)).or (pi_tup (ha gd))).imp fun σ H R ⟨env, ex, r, h⟩ => by
    unfold iSeq at h
    cases e1 : fa env with
    | no => rw [e1] at h; exact h.elim
    | ex x e => rw [e1] at h; exact .inl ⟨env, ex, r, by rw [e1]; exact h⟩
    | ok t e =>
      rw [e1] at h
      have h : Aft (XOk G W σ ex) _ (ofL e (seqD (frz t))) := h
      cases e2 : frz t with
      | lst ds =>
        rw [e2] at h
        refine .inl ⟨env, ex, r, ?_⟩
        rw [e1]
        intro H' v r'
        have r2 := r'.freeze
        rw [e2] at r2
        obtain ⟨p, vs, ev, sq, _⟩ := r2.out1.fz
        refine ⟨p, ev, ⟨vs, by rw [← gd.hK]; exact sq⟩, ?_⟩
        rw [← gd.hK]
        exact h H' _ _ (dwalk_list ev) r2
      | tup ds =>
        rw [e2] at h
        refine .inr ⟨env, ex, r, ?_⟩
        rw [e1]
        intro H' v r'
        have r2 := r'.freeze
        rw [e2] at r2
        obtain ⟨p, vs, ev, sq, _⟩ := r2.out1.fz
        refine ⟨p, ev, ⟨vs, by rw [← gd.hK]; exact sq⟩, ?_⟩
        rw [← gd.hK]
        exact h H' _ _ (dwalk_tup ev) r2
      | _ => rw [e2] at h; exact h.elim
/-- the ints lo, lo + 1, .. -/
def rangeD (lo : Int) (n : Nat) : List D := (List.range n).map fun i => .int (lo + (i : Nat))
theorem dwalk_range {lo : Int} {n : Nat} : DWalk Z (Itr lo n) [] (rangeD lo n) where
  go := fun i H rs hi ro => by
    show i < n
    simpa [rangeD] using hi
  stop := fun H rs ro => by
    show n ≤ (rangeD lo n).length
    simp [rangeD]
  yld := fun i H H' x rs d hd ro y => by
    obtain ⟨rfl, rfl⟩ := y
    have hi : i < n := by
      have := lt_of_get hd
      simpa [rangeD] using this
    have : (rangeD lo n)[i]? = some (.int (lo + (i : Nat))) := by
      unfold rangeD
      rw [List.getElem?_map, List.getElem?_range hi]
      rfl
    rw [this] at hd
    cases hd
    exact Roots.add ro fun _ => rfl
def rgOk (i : Int) : Bool := decide (-(2 ^ 62) ≤ i ∧ i < 2 ^ 62)
@[simp] def range1D : List D → Option (List D)
  | [.int n] => if rgOk n = true then some (rangeD 0 n.toNat) else none
  | _ => none
@[simp] def range2D : List D → Option (List D)
  | [.int i, .int j] => if (rgOk i && rgOk j) = true then some (rangeD i (j - i).toNat) else none
  | _ => none
@[simp] def iArgs (g : List D → Option (List D)) (fs : M (List T)) (env : Env) : R (List D) := (fs env).bind fun ts e => ofL e (g (frzs ts))
theorem di_range1 {tg : Expr} {p : Pos} (hg : Gl X "range") (hm : X.mg "range" = none) (ha : DA X G W [a] [none] fs) (hs : starEach [a] X.env = [(false, eval a X.env)] := by rfl) : DI X G W tg (.Call (.Name "range" p) [a] [] pos) (iArgs range1D fs) := fun gd =>
  (pi_range1 hg hm (ha gd) hs).imp fun σ H R ⟨env, ex, r, h⟩ => ⟨env, ex, r, aft_more (l := []) (aft_bind h) fun ts e p H2 vs hl hs hsrc r2 => by
    unfold range1D at p
    split at p
    · rename_i n en
      split at p
      · rename_i hn
        have ro := Roots.freezes r2.out
        rw [en] at ro
        obtain ⟨v, rfl, ro'⟩ := ro.args1 (by rw [hl, ← frzs_len, en])
        have hn := of_decide_eq_true (show decide _ = true from hn)
        exact ⟨n, congrArg (fun x => [x]) ro'.fz, hn.1, hn.2, p H2 _ [] dwalk_range r2.drops⟩
      · exact p.elim
    · exact p.elim⟩
theorem di_range2 {tg : Expr} {p : Pos} (hg : Gl X "range") (hm : X.mg "range" = none) (ha : DA X G W [a, b] [none, none] fs) (hs : starEach [a, b] X.env = [(false, eval a X.env), (false, eval b X.env)] := by rfl) (hs2 : starEach [b] X.env = [(false, eval b X.env)] := by rfl) :
    DI X G W tg (.Call (.Name "range" p) [a, b] [] pos) (iArgs range2D fs) := fun gd =>
  (pi_range2 hg hm (ha gd) hs hs2).imp fun σ H R ⟨env, ex, r, h⟩ => ⟨env, ex, r, aft_more (l := []) (aft_bind h) fun ts e p H2 vs hl hs hsrc r2 => by
    unfold range2D at p
    split at p
    · rename_i i j en
      split at p
      · rename_i hn
        have ro := Roots.freezes r2.out
        rw [en] at ro
        obtain ⟨v, w, rfl, ro'⟩ := ro.args2 (by rw [hl, ← frzs_len, en])
        obtain ⟨h1, h2⟩ := Bool.and_eq_true_iff.mp hn
        have h1 := of_decide_eq_true (show decide _ = true from h1)
        have h2 := of_decide_eq_true (show decide _ = true from h2)
        have e1 : v = .int i := ro'.fz
        have e2 : w = .int j := ro'.drop.fz
        subst e1 e2
        exact ⟨i, j, rfl, ⟨h1.1, h1.2, h2.1, h2.2⟩, p H2 _ [] dwalk_range r2.drops⟩
      · exact p.elim
    · exact p.elim⟩
@[simp] def pairD (xs ys : List D) : List D := List.zipWith (fun x y => D.tup [x, y]) xs ys
@[simp] def zipD : List D → Option (List D)
  | [.lst xs, .lst ys] => some (pairD xs ys)
  | [.tup xs, .tup ys] => some (pairD xs ys)
  | _ => none
theorem Roots.two {H : Hp} {v w : V} {d d' : D} {rs : List (V × T)} (h : Roots Z H ((v, .fz d) :: (w, .fz d') :: rs)) {x y : V} {dx dy : D} (k : ∀ F, Rp Z F v d → Rp Z F w d' → Same F H → Rp Z F x dx ∧ Rp Z F y dy) :
    Roots Z H ((x, .fz dx) :: (y, .fz dy) :: (v, .fz d) :: (w, .fz d') :: rs) := by
  obtain ⟨F, _, s, ⟨f1, _, o1, ⟨f2, f3, o2, o3, rfl⟩, rfl⟩, n, q⟩ := h
  have e1 : f1 = [] := o1.2
  have e2 : f2 = [] := o2.2
  subst e1 e2
  obtain ⟨k1, k2⟩ := k F o1.1 o2.1 s
  exact ⟨F, f3, s, ⟨[], f3, ⟨k1, rfl⟩, ⟨[], f3, ⟨k2, rfl⟩, ⟨[], f3, o1, ⟨[], f3, o2, o3, rfl⟩, rfl⟩, rfl⟩, rfl⟩, n, q⟩
theorem pairD_get {xs ys : List D} {i : Nat} {d : D} (h : (pairD xs ys)[i]? = some d) : ∃ x y, xs[i]? = some x ∧ ys[i]? = some y ∧ d = .tup [x, y] := by
  unfold pairD at h
  rw [List.getElem?_zipWith] at h
  cases h1 : xs[i]? with
  | none => rw [h1] at h; cases h
  | some x =>
    cases h2 : ys[i]? with
    | none => rw [h1, h2] at h; cases h
    | some y => rw [h1, h2] at h; cases h; exact ⟨x, y, rfl, rfl, rfl⟩
theorem dwalk_zip {v w : V} {xs ys : List D} {p q : Addr} (ev : v = .ref p) (ew : w = .ref q) : DWalk Z (Itz Z.K p q) [(v, .fz (.lst xs)), (w, .fz (.lst ys))] (pairD xs ys) where
  go := fun i H rs hi ro => by
    obtain ⟨x, y, h1, h2, _⟩ := pairD_get (List.getElem?_eq_getElem hi)
    obtain ⟨p', vs, e, s, r⟩ := ro.fz
    rw [ev] at e; cases e
    obtain ⟨q', ws, e, s', r'⟩ := ro.drop.fz
    rw [ew] at e; cases e
    obtain ⟨x', ex, _⟩ := r.get h1
    obtain ⟨y', ey, _⟩ := r'.get h2
    exact ⟨vs, ws, x', y', s, s', ex, ey⟩
  stop := fun H rs ro => by
    obtain ⟨p', vs, e, s, r⟩ := ro.fz
    rw [ev] at e; cases e
    obtain ⟨q', ws, e, s', r'⟩ := ro.drop.fz
    rw [ew] at e; cases e
    refine ⟨vs, ws, s, s', ?_⟩
    rw [r.length, r'.length]
    simp [pairD]
    omega
  yld := fun i H H' x rs d hd ro y => by
    obtain ⟨T, x1, y1, rfl, nT, rfl, k1, k2⟩ := y
    obtain ⟨dx, dy, h1, h2, rfl⟩ := pairD_get hd
    refine Roots.newT (vs := [x1, y1]) (ds := [dx, dy]) rfl (Roots.two ro fun F r r' s => ?_) nT
    obtain ⟨p', vs, e, sq, r⟩ := r
    rw [ev] at e; cases e
    obtain ⟨q', ws, e, sq', r'⟩ := r'
    rw [ew] at e; cases e
    obtain ⟨a1, e1, q1⟩ := r.get h1
    obtain ⟨a2, e2, q2⟩ := r'.get h2
    rw [k1 vs (s.seq sq)] at e1
    rw [k2 ws (s.seq sq')] at e2
    cases e1; cases e2
    exact ⟨q1, q2⟩
theorem dwalk_zipT {v w : V} {xs ys : List D} {p q : Addr} (ev : v = .ref p) (ew : w = .ref q) : DWalk Z (RZ.ItzT Z.K p q) [(v, .fz (.tup xs)), (w, .fz (.tup ys))] (pairD xs ys) where
  go := fun i H rs hi ro => by
    obtain ⟨x, y, h1, h2, _⟩ := pairD_get (List.getElem?_eq_getElem hi)
    obtain ⟨p', vs, e, s, r⟩ := ro.fz
    rw [ev] at e; cases e
    obtain ⟨q', ws, e, s', r'⟩ := ro.drop.fz
    rw [ew] at e; cases e
    obtain ⟨x', ex, _⟩ := r.get h1
    obtain ⟨y', ey, _⟩ := r'.get h2
    exact ⟨vs, ws, x', y', s, s', ex, ey⟩
  stop := fun H rs ro => by
    obtain ⟨p', vs, e, s, r⟩ := ro.fz
    rw [ev] at e; cases e
    obtain ⟨q', ws, e, s', r'⟩ := ro.drop.fz
    rw [ew] at e; cases e
    refine ⟨vs, ws, s, s', ?_⟩
    rw [r.length, r'.length]
    simp [pairD]
    omega
  yld := fun i H H' x rs d hd ro y => by
    obtain ⟨T, x1, y1, rfl, nT, rfl, k1, k2⟩ := y
    obtain ⟨dx, dy, h1, h2, rfl⟩ := pairD_get hd
    refine Roots.newT (vs := [x1, y1]) (ds := [dx, dy]) rfl (Roots.two ro fun F r r' s => ?_) nT
    obtain ⟨p', vs, e, sq, r⟩ := r
    rw [ev] at e; cases e
    obtain ⟨q', ws, e, sq', r'⟩ := r'
    rw [ew] at e; cases e
    obtain ⟨a1, e1, q1⟩ := r.get h1
    obtain ⟨a2, e2, q2⟩ := r'.get h2
    rw [k1 vs (same_t s sq)] at e1
    rw [k2 ws (same_t s sq')] at e2
    cases e1; cases e2
    exact ⟨q1, q2⟩
theorem di_zip {p tpos : Pos} {elts : List Expr} {kk : Nat} (hg : Gl X "zip") (hm : X.mg "zip" = none) (ha : DA X G W [a, b] [none, none] fs) (hs : starEach [a, b] X.env = (false, eval a X.env) :: starEach [b] X.env := by rfl) (hpl : (backTo pos (starEach [b] X.env)).any (·.1) = false := by rfl) :
    DI X G W (.Tuple elts kk tpos) (.Call (.Name "zip" p) [a, b] [] pos) (iArgs zipD fs) := fun gd =>
  (RZ.pi_zipA hg hm (ha gd) hs hpl).imp fun σ H R ⟨env, ex, r, h⟩ => ⟨env, ex, r, aft_more (l := []) (aft_bind h) fun ts e p H2 vs hl hs hsrc r2 => by
    unfold zipD at p
    split at p
    · rename_i xs ys en
      have ro := Roots.freezes r2.out
      rw [en] at ro
      obtain ⟨v, w, rfl, ro'⟩ := ro.args2 (by rw [hl, ← frzs_len, en])
      obtain ⟨p1, vs, e1, s1, _⟩ := ro'.fz
      obtain ⟨p2, ws, e2, s2, _⟩ := ro'.drop.fz
      subst e1 e2
      rw [← gd.hK]
      exact ⟨p1, p2, vs, ws, rfl, .inl ⟨s1, s2, p H2 _ _ (dwalk_zip rfl rfl) (r2.back (l := [_, _]) ro')⟩⟩
    · rename_i xs ys en
      have ro := Roots.freezes r2.out
      rw [en] at ro
      obtain ⟨v, w, rfl, ro'⟩ := ro.args2 (by rw [hl, ← frzs_len, en])
      obtain ⟨p1, vs, e1, s1, _⟩ := ro'.fz
      obtain ⟨p2, ws, e2, s2, _⟩ := ro'.drop.fz
      subst e1 e2
      rw [← gd.hK]
      exact ⟨p1, p2, vs, ws, rfl, .inr ⟨s1, s2, p H2 _ _ (dwalk_zipT rfl rfl) (r2.back (l := [_, _]) ro')⟩⟩
    · exact p.elim⟩
/-! ### comprehensions -/
@[simp] def wipeE (e : Env) : List Nat → Env
  | [] => e
  | v :: vs => (wipeE e vs).set v none
def loopC (set : T → Env → Option Env) (tst : M Bool) (elt : M T) (vs : List Nat) : List D → List T → Env → R (List T)
  | [], acc, env => .ok acc env
  | d :: ds, acc, env => match set (.fz d) env with
    | none => .no
    | some e1 => match tst e1 with
      | .ok true e2 => (match elt e2 with
        | .ok t e3 => if acc.length < sizeLine then loopC set tst elt vs ds (acc ++ [t]) (wipeE e3 vs) else .no
        | _ => .no)
      | .ok false e2 => loopC set tst elt vs ds acc (wipeE e2 vs)
      | _ => .no
@[simp] def fLc (fi : M (List D)) (set : T → Env → Option Env) (tst : M Bool) (elt : M T) (vs : List Nat) (env : Env) : R T := (fi env).bind fun ds e => (loopC set tst elt vs ds [] (wipeE e vs)).bind fun acc e' => .ok (.lst acc) (wipeE e' vs)
abbrev W0 : WX := fun _ _ _ _ => False
theorem Rel.wipe1 {H : Hp} {σ : L2.St} {env : Env} {ex : List (V × T)} {i : Nat} (r : Rel G H σ env ex) (x : Option V) (ni : i ∉ G.io) : Rel G H (σ.set i x) (env.set i none) ex := by
  have r1 := r.forget (i := i)
  refine ⟨⟨by simpa using r.1.1, fun j t e => ?_⟩, ⟨by simpa using r.2.1.1, fun j hj => ?_⟩, by rw [slots_none]; exact r1.2.2⟩
  · by_cases h : i = j
    · subst h
      by_cases hl : i < env.length
      · rw [List.getElem?_set_self hl] at e; cases e
      · rw [List.getElem?_eq_none (by simpa using hl)] at e; cases e
    · rw [List.getElem?_set_ne h] at e ⊢
      exact r.1.2 j t e
  · rw [List.getElem?_set_ne (fun z => ni (by rw [z]; exact hj))]
    exact r.2.1.2 j hj
theorem Rel.wipe {H : Hp} {σ : L2.St} {env : Env} {ex : List (V × T)} : ∀ {vs : List Nat}, Rel G H σ env ex → (∀ i ∈ vs, i ∉ G.io) → Rel G H (wipe σ vs) (wipeE env vs) ex
  | [], r, _ => r
  | v :: vs, r, h => by
    have r1 := Rel.wipe (vs := vs) r fun i hi => h i (List.mem_cons_of_mem _ hi)
    exact r1.wipe1 none (h v (List.mem_cons_self ..))
theorem wipe_get {σ : L2.St} {vs : List Nat} {i : Nat} (h : i ∉ vs) : (wipe σ vs)[i]? = σ[i]? := by
  induction vs with
  | nil => rfl
  | cons v vs ih =>
    unfold wipe
    rw [List.getElem?_set_ne (fun z => h (by rw [z]; exact List.mem_cons_self ..))]
    exact ih fun z => h (List.mem_cons_of_mem _ z)
theorem wipe_in {σ : L2.St} {vs : List Nat} {i : Nat} (h : i ∈ vs) (hl : i < σ.length) : (wipe σ vs)[i]? = some none := by
  induction vs with
  | nil => cases h
  | cons v vs ih =>
    unfold wipe
    by_cases e : v = i
    · subst e
      rw [List.getElem?_set_self (by rw [wipe_length]; exact hl)]
    · rw [List.getElem?_set_ne e]
      rcases List.mem_cons.mp h with z | z
      · exact absurd z.symm e
      · exact ih z
theorem wipe_off {σ σ' : L2.St} {vs : List Nat} (h : Off vs (wipe σ vs) σ') : wipe σ' vs = wipe σ vs := by
  apply List.ext_getElem?
  intro i
  by_cases hi : i ∈ vs
  · by_cases hl : i < σ.length
    · rw [wipe_in hi hl, wipe_in hi (by rw [h.1, wipe_length]; exact hl)]
    · rw [List.getElem?_eq_none (by rw [wipe_length, h.1, wipe_length]; omega), List.getElem?_eq_none (by rw [wipe_length]; omega)]
  · rw [wipe_get hi, h.2 i hi]
theorem wipeE_set (e1 : Env) (u : Nat) (us : List Nat) : wipeE (e1.set u none) us = (wipeE e1 us).set u none := by
  induction us with
  | nil => rfl
  | cons k us ih2 =>
    unfold wipeE
    rw [ih2]
    by_cases h : k = u
    · subst h; rw [List.set_set]
    · rw [List.set_comm _ _ (fun z => h z.symm)]
/-- back to the slots as they were -/
theorem Rel.unwipe {H : Hp} {σ : L2.St} {env : Env} {ex : List (V × T)} {vs : List Nat} (r : Rel G H (L2.wipe σ vs) env ex) (hio : ∀ i ∈ vs, i ∉ G.io) : Rel G H σ (wipeE env vs) ex := by
  have key : ∀ (us : List Nat) (σ1 : L2.St) (e1 : Env), (∀ i ∈ us, i ∉ G.io) → Rel G H (L2.wipe σ1 us) e1 ex → Rel G H σ1 (wipeE e1 us) ex := by
    intro us
    induction us with
    | nil => exact fun _ _ _ r => r
    | cons u us ih =>
      intro σ1 e1 hu r
      have r : Rel G H ((L2.wipe σ1 us).set u none) e1 ex := r
      have r1 := r.wipe1 ((L2.wipe σ1 us)[u]?.getD none) (hu u (List.mem_cons_self ..))
      rw [List.set_set] at r1
      have e2 : (L2.wipe σ1 us).set u ((L2.wipe σ1 us)[u]?.getD none) = L2.wipe σ1 us := by
        cases q : (L2.wipe σ1 us)[u]? with
        | none => exact List.set_eq_of_length_le (List.getElem?_eq_none_iff.mp q)
        | some o => exact set_self q
      rw [e2] at r1
      have r2 := ih σ1 (e1.set u none) (fun i hi => hu i (List.mem_cons_of_mem _ hi)) r1
      have e3 : wipeE (e1.set u none) us = (wipeE e1 us).set u none := by
        exact wipeE_set ..
      rw [e3] at r2
      exact r2
  exact key vs σ env hio r
theorem rd_lc {fi : M (List D)} {set : T → Env → Option Env} {tst : M Bool} {elt : M T} {ws vs : List Nat} (hv : ∀ i ∈ ws, i ∈ vs) (hio : ∀ i ∈ vs, i ∉ G.io) (σ : L2.St) (H : Hp) (Q : VK) (h : rdE G W (fLc fi set tst elt vs) σ H Q) :
    tLc (rdI G W fi) (rdG G ws set) (rdT G W0 tst) (rdE G W0 elt) vs σ H Q := by
  obtain ⟨env, ex, r, h⟩ := h
  refine ⟨env, ex, r, ?_⟩
  unfold fLc at h
  cases e1 : fi env with
  | no => rw [e1] at h; exact h.elim
  | ex x e => rw [e1] at h; exact h
  | ok ds e =>
    rw [e1] at h
    intro H1 J ks w r1 D nD
    have h : Aft (XOk G W σ ex) (fun t e => ∀ H' v, Rel G H' σ e ((v, t) :: ex) → Q v H') ((loopC set tst elt vs ds [] (wipeE e vs)).bind fun acc e' => .ok (.lst acc) (wipeE e' vs)) := h
    refine ⟨fun i m H => i ≤ ds.length ∧ m = ds.length - i ∧ ∃ env acc, Rel G H (wipe σ vs) env ((.ref D, .lst acc) :: (ks ++ ex)) ∧
      Aft (XOk G W σ ex) (fun t e => ∀ H' v, Rel G H' σ e ((v, t) :: ex) → Q v H') ((loopC set tst elt vs (ds.drop i) acc env).bind fun acc e' => .ok (.lst acc) (wipeE e' vs)),
      ⟨_, Nat.zero_le _, rfl, wipeE e vs, [], ?_, h⟩, ?_⟩
    · have r2 := r1.wipe hio
      exact r2.back1 (Roots.newL (vs := []) (ts := []) rfl r2.2.2 nD)
    · rintro i m H ⟨hi, rfl, env, acc, r, h⟩
      by_cases hlt : i < ds.length
      · have ed : ds[i]? = some ds[i] := List.getElem?_eq_getElem hlt
        rw [List.drop_eq_getElem_cons hlt] at h
        have rk : Rel G H (wipe σ vs) env (ks ++ ((.ref D, .lst acc) :: ex)) := r.perm List.perm_middle.symm
        refine .inr ⟨w.go i H _ hlt rk.out, fun H' => ∃ env acc, Rel G H' (wipe σ vs) env ((.ref D, .lst acc) :: (ks ++ ex)) ∧
          Aft (XOk G W σ ex) (fun t e => ∀ H' v, Rel G H' σ e ((v, t) :: ex) → Q v H') ((loopC set tst elt vs (ds.drop (i + 1)) acc env).bind fun acc e' => .ok (.lst acc) (wipeE e' vs)),
          fun H' q => ⟨ds.length - (i + 1), by omega, hlt, rfl, q⟩, fun x H2 y => ?_⟩
        have r2 : Rel G H2 (wipe σ vs) env ((x, .fz ds[i]) :: (ks ++ ((.ref D, .lst acc) :: ex))) := rk.back (l := (x, .fz ds[i]) :: ks) (w.yld i H H2 x _ _ ed rk.out y)
        unfold loopC at h
        split at h
        · exact h.elim
        · rename_i env2 e2
          refine ⟨env, ks ++ ((.ref D, .lst acc) :: ex), .fz ds[i], r2, env2, e2, fun σ2 H3 off r3 => ⟨wipe_off (off.mono hv), env2, _, r3, ?_⟩⟩
          have wo := wipe_off (off.mono hv)
          split at h
          · rename_i e3 et
            rw [et]
            intro H4 r4
            show (if true = true then _ else _)
            rw [if_pos rfl]
            refine ⟨e3, _, r4, ?_⟩
            split at h
            · rename_i t e4 ee
              rw [ee]
              intro H5 v r5
              split at h
              · rename_i hz
                have r6 : Rel G H5 σ2 e4 ((.ref D, .lst acc) :: (v, t) :: (ks ++ ex)) := r5.perm (((List.perm_middle (l₁ := ks)).cons _).trans (.swap ..))
                obtain ⟨pp, ws', eq, hp, hl⟩ := r6.out1.lst
                cases eq
                refine ⟨ws', hp, by rw [hl]; exact hz, wipeE e4 vs, acc ++ [t], ?_, h⟩
                have ro := Rel.out (l := [(V.ref D, T.lst acc), (v, t)]) r6
                have r7 : Rel G _ σ2 e4 ((.ref D, .lst (acc ++ [t])) :: (ks ++ ex)) := r6.back1 (Roots.appL ro hp hl)
                have r8 := r7.wipe hio
                rw [wo] at r8
                exact r8
              · exact h.elim
            · exact h.elim
          · rename_i e3 et
            rw [et]
            intro H4 r4
            show (if false = true then _ else _)
            rw [if_neg Bool.false_ne_true]
            refine ⟨wipeE e3 vs, acc, ?_, h⟩
            have r6 : Rel G H4 σ2 e3 ((.ref D, .lst acc) :: (ks ++ ex)) := r4.perm List.perm_middle
            have r8 := r6.wipe hio
            rw [wo] at r8
            exact r8
          · exact h.elim
      · have ei : i = ds.length := by omega
        subst ei
        rw [List.drop_length] at h
        have rk : Rel G H (wipe σ vs) env (ks ++ ((.ref D, .lst acc) :: ex)) := r.perm List.perm_middle.symm
        exact .inl ⟨w.stop H _ rk.out, h H _ (rk.drops.unwipe hio)⟩
theorem good_blk (gd : Good X G W) (s : Shared) (H : Hp) (scope : Scope) (cenv : PySem.Env) (fp : List Addr) : Good (X.blk s H scope cenv fp) G W0 := ⟨gd.hK, takes0, gd.calm, gd.nd, PassesOwn.never⟩
def DTs (X : Cx) (G : Sg) (W : WX) (ifs : List Expr) (f : M Bool) : Prop := Good X G W → PTs X ifs (rdT G W f)
@[simp] def fYes (env : Env) : R Bool := .ok true env
theorem dts_nil : DTs X G W [] fYes := fun gd => ⟨fun pins s σ H Q I ⟨env, ex, r, h⟩ => pts_nil.run pins s σ H Q I (h H r)⟩
theorem dts_one {gc : M Bool} (h : DT X G W c gc) : DTs X G W [c] gc := fun gd => pts_one (h gd)
theorem de_lc {elt tg iter : Expr} {ifs : List Expr} {scope : Scope} {own : List (Str × Nat)} {fi : M (List D)} {set : T → Env → Option Env} {tst : M Bool} {fe : M T} {ws : List Nat} (hi : DI X G W tg iter fi) (ok : BlkOk X.N X.env.scope scope own)
    (hg : ∀ (s : Shared) (H : Hp) (C : Addr) (cl : List (Str × Addr)) (fp : List Addr), DG (X.blk s H scope (compEnvC scope cl C X.env) fp) G W0 tg ws set) (ht : ∀ (s : Shared) (H : Hp) (C : Addr) (cl : List (Str × Addr)) (fp : List Addr), DTs (X.blk s H scope (compEnvC scope cl C X.env) fp) G W0 ifs tst)
    (he : ∀ (s : Shared) (H : Hp) (C : Addr) (cl : List (Str × Addr)) (fp : List Addr), DE (X.blk s H scope (compEnvC scope cl C X.env) fp) G W0 elt fe) (hv : ∀ i ∈ ws, i ∈ own.map (·.2)) (hio : ∀ i ∈ own.map (·.2), i ∉ G.io) (hs : ∀ x, foldedSetIterable iter X.env x = pure x := by intro _; rfl) :
    DE X G W (.ListComp elt [⟨tg, iter, ifs, 0⟩] scope pos) (fLc fi set tst fe (own.map (·.2))) := fun gd =>
  (pe_lc gd.calm gd.nd (hi gd) ok (fun s H C cl fp => hg s H C cl fp (good_blk gd ..)) (fun s H C cl fp => ht s H C cl fp (good_blk gd ..)) (fun s H C cl fp => he s H C cl fp (good_blk gd ..)) hs).imp (rd_lc hv hio)
theorem ds_setLc {i : Nat} {y : Str} {py spos : Pos} {elt tg iter : Expr} {ifs : List Expr} {scope : Scope} {own : List (Str × Nat)} {fi : M (List D)} {set : T → Env → Option Env} {tst : M Bool} {fe : M T} {ws : List Nat} (hy : X.N[i]? = some y) (hyl : X.env.scope.names.lookup y = some .local) (hn : i < G.n) (ni : i ∉ G.io)
    (hsw : swapsWith (.ListComp elt [⟨tg, iter, ifs, 0⟩] scope pos) (some (.Name y py)) spos.line X.env = pure true) (hi : DI X G W tg iter fi) (ok : BlkOk X.N X.env.scope scope own)
    (hg : ∀ (s : Shared) (H : Hp) (C : Addr) (cl : List (Str × Addr)) (fp : List Addr), DG (X.blk s H scope (compEnvC scope cl C X.env) fp) G W0 tg ws set) (ht : ∀ (s : Shared) (H : Hp) (C : Addr) (cl : List (Str × Addr)) (fp : List Addr), DTs (X.blk s H scope (compEnvC scope cl C X.env) fp) G W0 ifs tst)
    (he : ∀ (s : Shared) (H : Hp) (C : Addr) (cl : List (Str × Addr)) (fp : List Addr), DE (X.blk s H scope (compEnvC scope cl C X.env) fp) G W0 elt fe) (hv : ∀ i ∈ ws, i ∈ own.map (·.2)) (hio : ∀ i ∈ own.map (·.2), i ∉ G.io) (hs : ∀ x, foldedSetIterable iter X.env x = pure x := by intro _; rfl) :
    DS X G W (.Assign [.Name y py] (.ListComp elt [⟨tg, iter, ifs, 0⟩] scope pos) spos) (fSet i (fLc fi set tst fe (own.map (·.2)))) := fun gd =>
  (ps_setLc gd.calm gd.nd hy hyl hsw (hi gd) ok (fun s H C cl fp => hg s H C cl fp (good_blk gd ..)) (fun s H C cl fp => ht s H C cl fp (good_blk gd ..)) (fun s H C cl fp => he s H C cl fp (good_blk gd ..)) hs).imp fun D σ H ⟨env, ex, r, h⟩ =>
    rd_lc hv hio σ H _ (rd_s r h fun H' v t e r' h' => h' _ H' (r'.store hn ni))
/-! ### list(x), tuple(x) -/
@[simp] def gList : D → Option T
  | .lst ds => some (.lst (ds.map T.fz))
  | .tup ds => some (.lst (ds.map T.fz))
  | _ => none
@[simp] def gTuple : D → Option T
  | .lst ds => some (.fz (.tup ds))
  | .tup ds => some (.fz (.tup ds))
  | _ => none
theorem Roots.items {H : Hp} {v : V} {d : D} {ds : List D} {rs : List (V × T)} (h : Roots Z H ((v, .fz d) :: rs)) {vs : List V} (k : ∀ F, Rp Z F v d → Same F H → Rps Z F vs ds) : Roots Z H (vs.zip (ds.map T.fz) ++ rs) := by
  obtain ⟨F, _, s, ⟨f1, f2, o1, o2, rfl⟩, n, q⟩ := h
  have e : f1 = [] := o1.2
  subst e
  have all : ∀ {vs : List V} {ds : List D}, Rps Z F vs ds → OwnR Z F H (vs.zip (ds.map T.fz)) [] := by
    intro vs
    induction vs with
    | nil => intro ds h; cases ds <;> rfl
    | cons v vs ih =>
      intro ds h
      cases ds with
      | nil => exact h.elim
      | cons d ds => exact ⟨[], [], ⟨h.1, rfl⟩, ih h.2, rfl⟩
  exact ⟨F, f2, s, (all (k F o1.1 s)).append o2, n, q⟩
theorem Roots.openL {H : Hp} {v : V} {ds : List D} {rs : List (V × T)} (h : Roots Z H ((v, .fz (.lst ds)) :: rs)) : ∃ p vs, v = .ref p ∧ SqL Z.K H p vs ∧ vs.length = ds.length ∧ Roots Z H (vs.zip (ds.map T.fz) ++ rs) := by
  obtain ⟨F, f, s, o, n, q⟩ := h
  obtain ⟨f1, f2, o1, o2, rfl⟩ := id o
  obtain ⟨⟨p, vs, e, sq, r⟩, e1⟩ := o1
  subst e1
  refine ⟨p, vs, e, s.seq sq, r.length, ?_⟩
  have all : ∀ {vs : List V} {ds : List D}, Rps Z F vs ds → OwnR Z F H (vs.zip (ds.map T.fz)) [] := by
    intro vs
    induction vs with
    | nil => intro ds h; cases ds <;> rfl
    | cons v vs ih =>
      intro ds h
      cases ds with
      | nil => exact h.elim
      | cons d ds => exact ⟨[], [], ⟨h.1, rfl⟩, ih h.2, rfl⟩
  exact ⟨F, f2, s, (all r).append o2, n, q⟩
theorem Roots.openT {H : Hp} {v : V} {ds : List D} {rs : List (V × T)} (h : Roots Z H ((v, .fz (.tup ds)) :: rs)) : ∃ p vs, v = .ref p ∧ SqT Z.K H p vs ∧ vs.length = ds.length ∧ Roots Z H (vs.zip (ds.map T.fz) ++ rs) := by
  obtain ⟨F, f, s, o, n, q⟩ := h
  obtain ⟨f1, f2, o1, o2, rfl⟩ := id o
  obtain ⟨⟨p, vs, e, sq, r⟩, e1⟩ := o1
  subst e1
  refine ⟨p, vs, e, same_t s sq, r.length, ?_⟩
  have all : ∀ {vs : List V} {ds : List D}, Rps Z F vs ds → OwnR Z F H (vs.zip (ds.map T.fz)) [] := by
    intro vs
    induction vs with
    | nil => intro ds h; cases ds <;> rfl
    | cons v vs ih =>
      intro ds h
      cases ds with
      | nil => exact h.elim
      | cons d ds => exact ⟨[], [], ⟨h.1, rfl⟩, ih h.2, rfl⟩
  exact ⟨F, f2, s, (all r).append o2, n, q⟩
theorem cd_list (hK : Z.K = X.K) : CallD X Z (.type "list") (g1 gList) := cd_1 call_list_of fun H rs v d t Q ro e k => by
  rw [← hK]
  unfold gList at e
  split at e
  · cases e
    obtain ⟨p, vs, rfl, sq, hl, ro'⟩ := ro.openL
    exact ⟨p, vs, rfl, .inl sq, fun l nl => k _ _ (Roots.newL (by simpa using hl) ro' nl)⟩
  · cases e
    obtain ⟨p, vs, rfl, sq, hl, ro'⟩ := ro.openT
    exact ⟨p, vs, rfl, .inr sq, fun l nl => k _ _ (Roots.newL (by simpa using hl) ro' nl)⟩
  · cases e
theorem cd_tuple (hK : Z.K = X.K) : CallD X Z (.type "tuple") (g1 gTuple) := cd_1 call_tuple_of fun H rs v d t Q ro e k => by
  rw [← hK]
  unfold gTuple at e
  split at e
  · cases e
    obtain ⟨p, vs, rfl, sq, hl, ro'⟩ := ro.openL
    exact ⟨p, vs, rfl, .inl ⟨sq, fun l nl => k _ _ (Roots.newT hl ro' nl)⟩⟩
  · cases e
    obtain ⟨p, vs, e1, sq, hl, ro'⟩ := ro.openT
    subst e1
    exact ⟨p, vs, rfl, .inr ⟨sq, k _ _ ro⟩⟩
  · cases e
/-! ### isinstance with built-in classes -/
@[simp] def tyD : D → Option String
  | .int _ => some "int"
  | .bl _ => some "bool"
  | .str _ => some "str"
  | .non => some "NoneType"
  | .lst _ => some "list"
  | .tup _ => some "tuple"
  | .dic _ _ => some "dict"
  | _ => none
def isiB (a b : String) : Option Bool := if a = b then some true else if a = "bool" ∧ b = "int" then some true else if b ∈ ["int", "bool", "str", "list", "tuple", "dict"] then some false else none
@[simp] def gIsi : D → D → Option T
  | d, .ty n => (tyD d).bind fun a => (isiB a n).map fun k => .fz (.bl k)
  | _, _ => none
theorem isiB_ok : ∀ a ∈ ["int", "bool", "str", "NoneType", "list", "tuple", "dict"], ∀ b ∈ ["int", "bool", "str", "list", "tuple", "dict"], kitB a b = isiB a b := by decide +kernel
theorem isiB_some {a b : String} {r : Bool} (ha : a ∈ ["int", "bool", "str", "NoneType", "list", "tuple", "dict"]) (h : isiB a b = some r) : kitB a b = some r := by
  by_cases hb : b ∈ ["int", "bool", "str", "list", "tuple", "dict"]
  · rw [isiB_ok a ha b hb]; exact h
  · unfold isiB at h
    by_cases e : a = b
    · subst e
      rw [if_pos rfl] at h
      cases h
      unfold kitB
      rw [if_pos (by simp)]
    · rw [if_neg e] at h
      by_cases e2 : a = "bool" ∧ b = "int"
      · exact absurd (by rw [e2.2]; simp) hb
      · rw [if_neg e2, if_neg hb] at h
        cases h
theorem tyD_ok {H : Hp} {v : V} {d : D} {n : String} (r : Rp Z H v d) (h : tyD d = some n) : TyX Z.K H v (.type n) ∧ n ∈ ["int", "bool", "str", "NoneType", "list", "tuple", "dict"] := by
  unfold tyD at h
  split at h <;> cases h
  · cases r; exact ⟨.base (.int _), by simp⟩
  · cases r; exact ⟨.base (.bl _), by simp⟩
  · cases r; exact ⟨.base (.str _), by simp⟩
  · cases r; exact ⟨.base .non, by simp⟩
  · obtain ⟨a, vs, rfl, q, _⟩ := r
    refine ⟨?_, by simp⟩
    rcases q with (q | ⟨o, q⟩) | ⟨o, its, n, hk, hc, _⟩
    · exact .base (.lst q)
    · exact .base (.frz q)
    · exact .kList hk hc
  · obtain ⟨a, vs, rfl, q, _⟩ := r
    refine ⟨?_, by simp⟩
    rcases q with (q | ⟨o, q⟩) | ⟨o, its, n, hk, hc, _⟩
    · exact .base (.tup q)
    · exact .fTuple q
    · exact .kTuple hk hc
  · obtain ⟨a, kvs, rfl, q, _⟩ := r
    exact ⟨.base (.dK q), by simp⟩
theorem cd_isi (hK : Z.K = X.K) : CallD X Z (.builtin "isinstance") (g2 gIsi) := cd_2 call_isi fun H rs v w d d' t Q ro e k => by
  rw [← hK]
  unfold gIsi at e
  split at e
  · rename_i n
    obtain ⟨a, e1, e2⟩ := Option.bind_eq_some_iff.mp e
    obtain ⟨b, e3, rfl⟩ := Option.map_eq_some_iff.mp e2
    obtain ⟨ty, hm⟩ := tyD_ok ro.fz e1
    have ew : w = .ty n := ro.drop.fz
    subst ew
    exact ⟨v, .ty n, _, _, b, rfl, .ty n, ty, kit_ty (isiB_some hm e3), k _ _ (Roots.add ro.drop2 fun _ => rfl)⟩
  · cases e
theorem de_ty {x : Str} {n : String} (hg : Gl X x) (hm : X.mg x = none) (hv : bootBuiltins x = some (.type n)) (hn : x ≠ "__name__" := by decide) (hd : (x == ("__debug__" : Str)) = false := by decide) : DE X G W (.Name x pos) (fC (.ty n)) := de_const (pe_bltn (v := .ty n) hg hm hv rfl hn hd) fun _ => rfl
end
end DL

set_option maxHeartbeats 4000000
namespace DL
open PySem PySem.Spec PyProof.Rows L2
theorem bt_len : bootBuiltins "len" = some (.builtin "len") := by decide +kernel
theorem bt_abs : bootBuiltins "abs" = some (.builtin "abs") := by decide +kernel
theorem bt_isinstance : bootBuiltins "isinstance" = some (.builtin "isinstance") := by decide +kernel
theorem bt_int : bootBuiltins "int" = some (.type "int") := by decide +kernel
theorem bt_list : bootBuiltins "list" = some (.type "list") := by decide +kernel
theorem bt_tuple : bootBuiltins "tuple" = some (.type "tuple") := by decide +kernel
theorem bt_bool : bootBuiltins "bool" = some (.type "bool") := by decide +kernel
theorem bt_str : bootBuiltins "str" = some (.type "str") := by decide +kernel
theorem bt_dict : bootBuiltins "dict" = some (.type "dict") := by decide +kernel
section
variable {X : Cx} {G : Sg} {W : WX} {a b c e : Expr} {es : List Expr} {fa fb fc : M T} {fs : M (List T)} {src : List (Option Nat)} {pos p : Pos}
theorem lt_b {i n : Nat} (h : Nat.blt i n = true) : i < n := by simpa [Nat.blt_eq] using h
theorem io_b {i : Nat} {io : List Nat} (h : io.contains i = false) : i ∉ io := fun z => by
  have : io.contains i = true := List.contains_iff_mem.mpr z
  rw [this] at h; cases h
theorem ios_b {vs io : List Nat} (h : (vs.all fun i => !io.contains i) = true) : ∀ i ∈ vs, i ∉ io := fun i hi => by
  have := List.all_eq_true.mp h i hi
  exact io_b (by simpa using this)
theorem in_b {vs ws : List Nat} (h : (ws.all fun i => vs.contains i) = true) : ∀ i ∈ ws, i ∈ vs := fun i hi => List.contains_iff_mem.mp (List.all_eq_true.mp h i hi)
theorem dlc {elt tg iter : Expr} {ifs : List Expr} {scope : Scope} (own : List (Str × Nat)) {fi : M (List D)} {set : T → Env → Option Env} {tst : M Bool} {fe : M T} {ws : List Nat} (hi : DI X G W tg iter fi) (ok : blkC X.N X.env.scope scope own = true)
    (hg : ∀ (s : Shared) (H : Hp) (C : Addr) (cl : List (Str × Addr)) (fp : List Addr), DG (X.blk s H scope (compEnvC scope cl C X.env) fp) G W0 tg ws set) (ht : ∀ (s : Shared) (H : Hp) (C : Addr) (cl : List (Str × Addr)) (fp : List Addr), DTs (X.blk s H scope (compEnvC scope cl C X.env) fp) G W0 ifs tst)
    (he : ∀ (s : Shared) (H : Hp) (C : Addr) (cl : List (Str × Addr)) (fp : List Addr), DE (X.blk s H scope (compEnvC scope cl C X.env) fp) G W0 elt fe) (hv : (ws.all fun i => (own.map (·.2)).contains i) = true := by rfl) (hio : ((own.map (·.2)).all fun i => !G.io.contains i) = true := by rfl) (hs : ∀ x, foldedSetIterable iter X.env x = pure x := by intro _; rfl) :
    DE X G W (.ListComp elt [⟨tg, iter, ifs, 0⟩] scope pos) (fLc fi set tst fe (own.map (·.2))) := de_lc hi (blkOk_by ok) hg ht he (in_b hv) (ios_b hio) hs
theorem dsetLc (i : Nat) {y : Str} {py spos : Pos} {elt tg iter : Expr} {ifs : List Expr} {scope : Scope} (own : List (Str × Nat)) {fi : M (List D)} {set : T → Env → Option Env} {tst : M Bool} {fe : M T} {ws : List Nat} (hi : DI X G W tg iter fi) (ok : blkC X.N X.env.scope scope own = true)
    (hg : ∀ (s : Shared) (H : Hp) (C : Addr) (cl : List (Str × Addr)) (fp : List Addr), DG (X.blk s H scope (compEnvC scope cl C X.env) fp) G W0 tg ws set) (ht : ∀ (s : Shared) (H : Hp) (C : Addr) (cl : List (Str × Addr)) (fp : List Addr), DTs (X.blk s H scope (compEnvC scope cl C X.env) fp) G W0 ifs tst)
    (he : ∀ (s : Shared) (H : Hp) (C : Addr) (cl : List (Str × Addr)) (fp : List Addr), DE (X.blk s H scope (compEnvC scope cl C X.env) fp) G W0 elt fe) (ha : (scope.names.any fun (n, k) => n == y && (k == .local || k == .cell)) = false) (hy : X.N[i]? = some y := by rfl) (hyl : X.env.scope.names.lookup y = some .local := by rfl)
    (hn : Nat.blt i G.n = true := by rfl) (ni : G.io.contains i = false := by rfl) (hk : X.env.scope.kind = .function := by rfl) (hl : (py.line == pos.line) = true := by rfl)
    (hv : (ws.all fun i => (own.map (·.2)).contains i) = true := by rfl) (hio : ((own.map (·.2)).all fun i => !G.io.contains i) = true := by rfl) (hs : ∀ x, foldedSetIterable iter X.env x = pure x := by intro _; rfl) :
    DS X G W (.Assign [.Name y py] (.ListComp elt [⟨tg, iter, ifs, 0⟩] scope pos) spos) (fSet i (fLc fi set tst fe (own.map (·.2)))) := ds_setLc hy hyl (lt_b hn) (io_b ni) (sw_true hk hyl hl ha) hi (blkOk_by ok) hg ht he (in_b hv) (ios_b hio) hs
/-- a name in slot i -/
theorem dv (i : Nat) {x : Str} {pos : Pos} (hN : X.N[i]? = some x := by rfl) (hv : Vis X.env.scope x := by first | exact Or.inl rfl | exact Or.inr (Or.inl rfl) | exact Or.inr (Or.inr rfl)) (hd : (x == ("__debug__" : Str)) = false := by decide)
    (hcd : (x == ("__classdict__" : Str)) = false := by decide) : DE X G W (.Name x pos) (fVar i) := de_var hN hv hd hcd
theorem dpeek (i : Nat) {x : Str} {p : Pos} (hb : DE X G W b fb) (hN : X.N[i]? = some x := by rfl) (hv : Vis X.env.scope x := by first | exact Or.inl rfl | exact Or.inr (Or.inl rfl) | exact Or.inr (Or.inr rfl)) (hs : PlainIx b := by exact fun _ _ => rfl)
    (hd : (x == ("__debug__" : Str)) = false := by decide) (hcd : (x == ("__classdict__" : Str)) = false := by decide) : DE X G W (.Subscript (.Name x p) b pos) (fPeek i fb) := de_peek hN hv hb hs hd hcd
theorem dmove (i : Nat) {x : Str} {pos : Pos} (hr : DA X G W es src fs) (hN : X.N[i]? = some x := by rfl) (hv : Vis X.env.scope x := by first | exact Or.inl rfl | exact Or.inr (Or.inl rfl) | exact Or.inr (Or.inr rfl)) (hs : starEach (.Name x pos :: es) X.env = (false, eval (.Name x pos) X.env) :: starEach es X.env := by rfl)
    (hd : (x == ("__debug__" : Str)) = false := by decide) (hcd : (x == ("__classdict__" : Str)) = false := by decide) : DA X G W (.Name x pos :: es) (some i :: src) (fMove i fs) := da_move hN hv hr hs hd hcd
theorem dset (i : Nat) {x : Str} {pos' : Pos} (he : DE X G W e fa) (hi : X.N[i]? = some x := by rfl) (hx : Loc X.env.scope x := by first | exact Or.inl rfl | exact Or.inr rfl) (hn : Nat.blt i G.n = true := by rfl) (ni : G.io.contains i = false := by rfl) (hs : swapsWith e (some (.Name x pos')) pos.line X.env = pure false := by rfl)
    (hf : X.fn x = true ∨ X.env.scope.names.lookup x = some .local := by first | exact .inl rfl | exact .inr rfl | assumption) : DS X G W (.Assign [.Name x pos'] e pos) (fSet i fa) := ds_set hi hx (lt_b hn) (io_b ni) he hs hf
theorem dname (i : Nat) {x : Str} (hi : X.N[i]? = some x := by rfl) (hx : Loc X.env.scope x := by first | exact Or.inl rfl | exact Or.inr rfl) (hn : Nat.blt i G.n = true := by rfl) (ni : G.io.contains i = false := by rfl)
    (hf : X.fn x = true ∨ X.env.scope.names.lookup x = some .local := by first | exact .inl rfl | exact .inr rfl | assumption) : DG X G W (.Name x pos) [i] (sName i) := dg_name hi hx (lt_b hn) (io_b ni) hf
theorem dput (i : Nat) {x : Str} {p : Pos} (hb : DE X G W b fb) (hN : X.N[i]? = some x := by rfl) (hv : Vis X.env.scope x := by first | exact Or.inl rfl | exact Or.inr (Or.inl rfl) | exact Or.inr (Or.inr rfl)) (ha : ∀ v, assign (.Subscript (.Name x p) b pos) X.env v = (do
      let ov ← holding [v] (eval (.Name x p) X.env)
      let iv ← holding [v, ov] (eval b X.env)
      standAt pos
      holding [v, ov, iv] (setItem ov iv v)
      release [v, ov, iv] []) := by intro _; rfl) (hd : (x == ("__debug__" : Str)) = false := by decide) (hcd : (x == ("__classdict__" : Str)) = false := by decide) :
    DG X G W (.Subscript (.Name x p) b pos) [] (sPut i fb) := dg_put hN hv hb ha hd hcd
theorem dpar (i j : Nat) {x y : Str} {px py pt : Pos} {kt k2 pt2} (ha : DA X G W [a, b] [none, none] fs) (hi : X.N[i]? = some x := by rfl) (hj : X.N[j]? = some y := by rfl) (hij : i ≠ j := by decide) (ni : Nat.blt i G.n = true := by rfl) (nj : Nat.blt j G.n = true := by rfl) (oi : G.io.contains i = false := by rfl) (oj : G.io.contains j = false := by rfl)
    (hx : X.env.scope.names.lookup x = some .local := by rfl) (hy : X.env.scope.names.lookup y = some .local := by rfl)
    (hw : swappedStores [.Tuple [.Name x px, .Name y py] kt pt] (.Tuple [a, b] k2 pt2) X.env = pure (some [x, y]) := by rfl)
    (hs : swapsWithSole [.Tuple [.Name x px, .Name y py] kt pt] (.Tuple [a, b] k2 pt2) pos.line X.env = pure false := by rfl) :
    DS X G W (.Assign [.Tuple [.Name x px, .Name y py] kt pt] (.Tuple [a, b] k2 pt2) pos) (fPar i j fs) := ds_par hi hj hij (lt_b ni) (lt_b nj) (io_b oi) (io_b oj) hx hy ha hw hs
theorem dappend (i : Nat) {x : Str} {p apos : Pos} (ha : DE X G W a fa) (hN : X.N[i]? = some x := by rfl) (hv : Vis X.env.scope x := by first | exact Or.inl rfl | exact Or.inr (Or.inl rfl) | exact Or.inr (Or.inr rfl)) (hd : (x == ("__debug__" : Str)) = false := by decide) (hcd : (x == ("__classdict__" : Str)) = false := by decide)
    (hsa : starEach [a] X.env = (false, eval a X.env) :: starEach [] X.env := by rfl) (hbase : attributeBase (.Name x p) "append" X.env (eval (.Name x p) X.env) = eval (.Name x p) X.env := by rfl)
    (hfew : ((backTo pos (starEach [a] X.env)).all (fun x => !x.1) && (backToKw pos (keywordEach [] X.env)).all (fun x => x.1.isSome)
      && decide ([a].length + ([] : List Keyword).length + (if ([] : List Keyword).isEmpty then 0 else 1) < 30)) = true := by rfl)
    (hline : (apos.endLine == pos.line) = true := by rfl) : DE X G W (.Call (.Attribute (.Name x p) "append" apos) [a] [] pos) (fAppend i fa) := de_append hN hv ha hd hcd hsa hbase hfew hline
/-! built-ins -/
theorem c_len (hm : X.mg "len" = none) (ha : DA X G W [a] src fs) (hg : Gl X "len" := by rfl) (he : starEach [a] X.env = (false, eval a X.env) :: starEach [] X.env := by rfl) : DE X G W (.Call (.Name "len" p) [a] [] pos) (fCB (g1 gLen) fs) := fun gd => (de_callB (cd_len gd.hK) hg hm bt_len ha (he := he)) gd
theorem c_abs (hm : X.mg "abs" = none) (ha : DA X G W [a] src fs) (hg : Gl X "abs" := by rfl) (he : starEach [a] X.env = (false, eval a X.env) :: starEach [] X.env := by rfl) : DE X G W (.Call (.Name "abs" p) [a] [] pos) (fCB (g1 gAbs) fs) := de_callB cd_abs hg hm bt_abs ha (he := he)
theorem c_int (hm : X.mg "int" = none) (ha : DA X G W [a] src fs) (hg : Gl X "int" := by rfl) (he : starEach [a] X.env = (false, eval a X.env) :: starEach [] X.env := by rfl) : DE X G W (.Call (.Name "int" p) [a] [] pos) (fCB (g1 gInt) fs) := de_callTy cd_int hg hm bt_int ha (he := he)
theorem c_list (hm : X.mg "list" = none) (ha : DA X G W [a] src fs) (hg : Gl X "list" := by rfl) (he : starEach [a] X.env = (false, eval a X.env) :: starEach [] X.env := by rfl) : DE X G W (.Call (.Name "list" p) [a] [] pos) (fCB (g1 gList) fs) := fun gd => (de_callTy (cd_list gd.hK) hg hm bt_list ha (he := he)) gd
theorem c_tuple (hm : X.mg "tuple" = none) (ha : DA X G W [a] src fs) (hg : Gl X "tuple" := by rfl) (he : starEach [a] X.env = (false, eval a X.env) :: starEach [] X.env := by rfl) : DE X G W (.Call (.Name "tuple" p) [a] [] pos) (fCB (g1 gTuple) fs) := fun gd => (de_callTy (cd_tuple gd.hK) hg hm bt_tuple ha (he := he)) gd
theorem c_isinstance (hm : X.mg "isinstance" = none) (ha : DA X G W [a, b] src fs) (hg : Gl X "isinstance" := by rfl) (he : starEach [a, b] X.env = (false, eval a X.env) :: starEach [b] X.env := by rfl) (hpl : (backTo pos (starEach [b] X.env)).any (·.1) = false := by rfl) : DE X G W (.Call (.Name "isinstance" p) [a, b] [] pos) (fCB (g2 gIsi) fs) := fun gd => (de_callB (cd_isi gd.hK) hg hm bt_isinstance ha (he := he) (hpl := hpl)) gd
theorem ty_int (hm : X.mg "int" = none) (hg : Gl X "int" := by rfl) : DE X G W (.Name "int" pos) (fC (.ty "int")) := de_ty hg hm bt_int
theorem ty_bool (hm : X.mg "bool" = none) (hg : Gl X "bool" := by rfl) : DE X G W (.Name "bool" pos) (fC (.ty "bool")) := de_ty hg hm bt_bool
theorem ty_tuple (hm : X.mg "tuple" = none) (hg : Gl X "tuple" := by rfl) : DE X G W (.Name "tuple" pos) (fC (.ty "tuple")) := de_ty hg hm bt_tuple
theorem ty_list (hm : X.mg "list" = none) (hg : Gl X "list" := by rfl) : DE X G W (.Name "list" pos) (fC (.ty "list")) := de_ty hg hm bt_list
theorem ty_str (hm : X.mg "str" = none) (hg : Gl X "str" := by rfl) : DE X G W (.Name "str" pos) (fC (.ty "str")) := de_ty hg hm bt_str
end
/-- a def of the module that keeps a promise by its function -/
structure Df (P : Program) (w : World) (K : PySem.W.Frag) (mg : Str → Option Value) (base : Heap) (C : Nat → Addr) (x : Str) (k : Nat) (ps : List Str) (io : List Nat) (m : Mir) : Prop where
  ex : ∃ f fd, mg x = some (.ref f) ∧ PySem.W.keepIn K (.ref f) = true ∧ Binds K fd ps [] ∧ FnOk P w K mg base (L2.CX P w) k f fd ps (spOf ⟨K, C⟩ ps.length io m)
/-- where a def stands -/
structure At (K : PySem.W.Frag) (mg : Str → Option Value) (x : Str) (st : Stmt) (ps : List Str) : Prop where
  ex : ∃ f fd, mg x = some (.ref f) ∧ Fun K x x st f fd ∧ Binds K fd ps []
section
variable {P : Program} {w : World} {K : PySem.W.Frag} {mg : Str → Option Value} {base : Heap} {C : Nat → Addr}
theorem Df.mk' {x : Str} {st : Stmt} {N ps : List Str} {k : Nat} {io : List Nat} {fb : MS} (A : At K mg x st ps) (S : FnScope N ps (defScope st)) (hio : io.Nodup) (hib : ∀ j ∈ io, j < ps.length)
    (hbody : ∀ (f : Addr) (cdv : Value) (A : Around) (outer : List PySem.Env) (s : Shared) (H : Hp) (E : XK) (s0 : L2.St) (W : WX), Room k (A.deeper (envOfC x (defScope st) s.heap.objs.size f cdv)) →
      DSs (cxOf (L2.CX P w) P w K mg base N x (defScope st) f cdv A outer s H E) ⟨⟨K, C⟩, io, s0, N.length⟩ W (defBody st) fb) : Df P w K mg base C x (k + 1) ps io (mirOf N.length io fb) := by
  obtain ⟨f, fd, hm, F, hb⟩ := A.ex
  refine ⟨f, fd, hm, F.kp, hb, fn_d F S hio hib fun X G W hX hz hi hn => ?_⟩
  obtain ⟨cdv, A, outer, s, H, E, rfl, hr⟩ := hX
  obtain ⟨Z, io', s0, n⟩ := G
  cases hz
  cases hi
  cases hn
  exact hbody f cdv A outer s H E s0 W hr
theorem Df.mono {x : Str} {j k : Nat} {ps : List Str} {io : List Nat} {m : Mir} (h : Df P w K mg base C x j ps io m) (hk : j ≤ k) : Df P w K mg base C x k ps io m := by
  obtain ⟨f, fd, h1, h2, h3, h4⟩ := h.ex
  exact ⟨f, fd, h1, h2, h3, h4.mono hk⟩
end
/-- f(e, ..) of such a def -/
theorem dcall {X : Cx} {io0 : List Nat} {s0 : L2.St} {n : Nat} {C : Nat → Addr} {W : WX} {e : Expr} {es : List Expr} {fs : M (List T)} {src : List (Option Nat)} {k : Nat} {ps : List Str} {io : List Nat} {m : Mir} {x : Str} {p pos : Pos}
    (F : Df X.prog X.w X.K X.mg X.base C x k ps io m) (js : List Nat) (hr : Room k X.A) (ha : DA X ⟨⟨X.K, C⟩, io0, s0, n⟩ W (e :: es) src fs) (hj : io.map (fun k => src.getD k none) = js.map some := by rfl) (hsl : src.length = ps.length := by rfl) (hg : Gl X x := by rfl)
    (hdb : (x == ("__debug__" : Str)) = false := by decide) (he : starEach (e :: es) X.env = (false, eval e X.env) :: starEach es X.env := by rfl) (hpl : (backTo pos (starEach es X.env)).any (·.1) = false := by rfl) :
    DE X ⟨⟨X.K, C⟩, io0, s0, n⟩ W (.Call (.Name x p) (e :: es) [] pos) (fCall m js src fs) := by
  obtain ⟨f, fd, h1, h2, h3, h4⟩ := F.ex
  exact de_call (G := ⟨⟨X.K, C⟩, io0, s0, n⟩) h4 hr hg h1 h2 h3 js hj hsl ha hdb he hpl
end DL
namespace DL
open PySem PySem.Spec PyProof.Rows L2
@[simp] def gAdd (a b : D) : Option T := (gI0 fun i j => .int (i + j)) a b
@[simp] def gSub (a b : D) : Option T := (gI0 fun i j => .int (i - j)) a b
@[simp] def gMul (a b : D) : Option T := (gI mulOk fun i j => .int (i * j)) a b
@[simp] def gFdiv (a b : D) : Option T := (gI divOk fun i j => .int (i.fdiv j)) a b
@[simp] def gMod (a b : D) : Option T := (gI (fun _ j => decide (j ≠ 0)) fun i j => .int (i.fmod j)) a b
@[simp] def gPow (a b : D) : Option T := (gI powOk fun i j => .int (i ^ j.toNat)) a b
@[simp] def gLt (a b : D) : Option T := (gI0 fun i j => .bl (decide (i < j))) a b
@[simp] def gLe (a b : D) : Option T := (gI0 fun i j => .bl (decide (i ≤ j))) a b
@[simp] def gGt (a b : D) : Option T := (gI0 fun i j => .bl (decide (j < i))) a b
@[simp] def gGe (a b : D) : Option T := (gI0 fun i j => .bl (decide (j ≤ i))) a b
@[simp] def gEq (a b : D) : Option T := (gEqS false) a b
@[simp] def gNe (a b : D) : Option T := (gEqS true) a b
section
variable {X : Cx} {Z : Wd}
theorem od_add : OpD X Z (binaryOp .Add) gAdd := od_addI
theorem od_mul : OpD X Z (binaryOp .Mult) gMul := od_mulI
theorem od_eq : OpD X Z (compareOp .Eq) gEq := od_eqS
theorem od_ne : OpD X Z (compareOp .NotEq) gNe := od_neS
end
end DL
namespace DL
/-- fuel by a slot's int, by the first int of a slot's tuple -/
def fuelI (i : Nat) (e : Env) : Nat := match e[i]? with
  | some (some (.fz (.int n))) => n.natAbs + 1
  | _ => 0
def fuelT (i : Nat) (e : Env) : Nat := match e[i]? with
  | some (some (.fz (.tup (.int n :: _)))) => n.natAbs + 1
  | _ => 0
end DL

set_option maxHeartbeats 1000000
namespace DL
open PySem L2
/-! ### the functions that many laws share: a pool of draws, a cell of the script -/
def b__law_pool : MS := fRet (fLst (fCons (fVar 0) (fCons (fC (.int 0)) (fCons (fBin gGe (fVar 0) (fBin gPow (fC (.int 10)) (fC (.int 18)))) (fNil)))))
def m__law_pool : Mir := mirOf 1 [] b__law_pool
def b__law_take : MS := fSeq (fAsg (fBin gAdd (fPeek 0 (fC (.int 1))) (fC (.int 1))) (sPut 0 (fC (.int 1)))) (fSeq (fIfS (fTest (fPeek 0 (fC (.int 2)))) (fSeq (fSet 2 (fBin gMod (fCB (g1 gInt) (fCons (fPeek 0 (fC (.int 0))) (fNil))) (fVar 1))) (fSeq (fAsg (fBin gFdiv (fCB (g1 gInt) (fCons (fPeek 0 (fC (.int 0))) (fNil))) (fVar 1)) (sPut 0 (fC (.int 0)))) (fRet (fVar 2)))) (fNext)) (fSeq (fSet 3 (fBin gMod (fCB (g1 gInt) (fCons (fBin gAdd (fBin gAdd (fBin gMul (fPeek 0 (fC (.int 0))) (fC (.int 7919))) (fBin gMul (fPeek 0 (fC (.int 1))) (fC (.int 104729)))) (fC (.int 13))) (fNil))) (fC (.int 2147483647)))) (fRet (fBin gMod (fBin gFdiv (fCB (g1 gInt) (fCons (fBin gMod (fBin gPow (fVar 3) (fC (.int 5))) (fC (.int 2147483647))) (fNil))) (fC (.int 17))) (fVar 1)))))
def m__law_take : Mir := mirOf 4 [0] b__law_take
def b__law_cell : MS := fSeq (fIfS (fTestB (fBin gLt (fVar 1) (fCB (g1 gLen) (fCons (fVar 0) (fNil))))) (fRet (fPeek 0 (fVar 1))) (fNext)) (fRet (fC (.int 0)))
def m__law_cell : Mir := mirOf 2 [] b__law_cell
/-- a pool: the number, how often it was drawn from, whether by digits -/
abbrev poolT (x n : Int) (fl : Bool) : T := .lst [.fz (.int x), .fz (.int n), .fz (.bl fl)]
theorem pool_eq (c : Int) : m__law_pool [.fz (.int c)] = .ok (poolT c 0 (decide (10 ^ 18 ≤ c))) [] := rfl
def takeR (x n : Int) (fl : Bool) (l : Int) : Int := if fl then x.fmod l else ((((x * 7919 + n * 104729 + 13).fmod 2147483647) ^ 5).fmod 2147483647 |>.fdiv 17).fmod l
def takeX (x : Int) (fl : Bool) (l : Int) : Int := if fl then x.fdiv l else x
theorem sz_le {x : Int} {k : Nat} (h : x.natAbs < 2 ^ k) : sz x ≤ k := by
  unfold sz
  by_cases h0 : x.natAbs = 0
  · rw [h0]; exact Nat.zero_le _
  · exact Nat.le_of_lt ((Nat.log2_lt h0).mpr h)
theorem lt_sz (x : Int) : x.natAbs < 2 ^ (sz x + 1) := by
  unfold sz
  exact Nat.lt_log2_self
theorem mulOk_of {x y : Int} {a b : Nat} (hx : sz x ≤ a) (hy : sz y ≤ b) (h : a + b < 134000000 := by decide) : mulOk x y = true := decide_eq_true (by omega)
theorem sz_mono {x : Int} {a b : Nat} (hx : sz x ≤ a) (h : a ≤ b) : sz x ≤ b := Nat.le_trans hx h
theorem fmod_nonneg_lt {x l : Int} (h : 0 < l) : 0 ≤ x.fmod l ∧ x.fmod l < l := by
  rw [Int.fmod_eq_emod_of_nonneg x (Int.le_of_lt h)]
  exact ⟨Int.emod_nonneg x (by omega), Int.emod_lt_of_pos x h⟩
theorem takeR_bd {x n : Int} {fl : Bool} {l : Int} (h : 0 < l) : 0 ≤ takeR x n fl l ∧ takeR x n fl l < l := by
  unfold takeR
  split <;> exact fmod_nonneg_lt h
theorem sz_fdiv {x l : Int} {k : Nat} (hx : sz x ≤ k) (hl : 0 < l) : sz (x.fdiv l) ≤ k + 1 := by
  apply sz_le
  have h1 := lt_sz x
  have h2 : (x.fdiv l).natAbs ≤ x.natAbs := by
    rw [Int.fdiv_eq_ediv_of_nonneg x (Int.le_of_lt hl)]
    have a1 : x / l * l ≤ x := Int.ediv_mul_le x (by omega)
    have a2 : x < x / l * l + l := by
      have := Int.lt_ediv_add_one_mul_self x hl
      rw [Int.add_mul, Int.one_mul] at this
      exact this
    by_cases h : 0 ≤ x
    · have b1 : 0 ≤ x / l := Int.ediv_nonneg h (by omega)
      have b2 : x / l ≤ x / l * l := by
        have := Int.mul_le_mul_of_nonneg_left (show (1 : Int) ≤ l by omega) b1
        omega
      omega
    · have b1 : x / l < 0 := Int.ediv_neg_of_neg_of_pos (by omega) hl
      have b2 : x ≤ x / l := by
        have h5 : x / l * l + l ≤ x / l + 1 := by
          have : (x / l + 1) * l ≤ (x / l + 1) * 1 := Int.mul_le_mul_of_nonpos_left (by omega) (by omega)
          rw [Int.add_mul, Int.one_mul] at this
          omega
        omega
      omega
  calc (x.fdiv l).natAbs ≤ x.natAbs := h2
    _ < 2 ^ (sz x + 1) := h1
    _ ≤ 2 ^ (k + 1) := Nat.pow_le_pow_right (by decide) (by omega)
/-- digits taken do not make it greater -/
theorem takeX_abs {x l : Int} {fl : Bool} (h : fl = true → 10 ^ 18 ≤ x ∨ 0 ≤ x) (hl : 0 < l) {k : Nat} (hx : x.natAbs < 2 ^ k) : (takeX x fl l).natAbs < 2 ^ k ∧ (fl = true → 0 ≤ takeX x fl l) := by
  unfold takeX
  cases fl with
  | false => exact ⟨hx, fun z => by cases z⟩
  | true =>
    have h0 : 0 ≤ x := by rcases h rfl with z | z <;> omega
    rw [if_pos rfl, Int.fdiv_eq_ediv_of_nonneg x (Int.le_of_lt hl)]
    have b1 : 0 ≤ x / l := Int.ediv_nonneg h0 (by omega)
    have b2 : x / l ≤ x := Int.ediv_le_self l h0
    exact ⟨by omega, fun _ => b1⟩
theorem take_eq {x n : Int} {fl : Bool} {l : Int} (hl : l ≠ 0) (hs : sz l < 9000) (hx : sz x ≤ 2000000) (hn : sz (n + 1) ≤ 1000) :
    m__law_take [poolT x n fl, .fz (.int l)] = .ok (.fz (.int (takeR x (n + 1) fl l))) [poolT (takeX x fl l) (n + 1) fl] := by
  have e1 : ∀ x, divOk x l = true := fun x => decide_eq_true ⟨hl, hs⟩
  cases fl with
  | true =>
    simp [m__law_take, mirOf, startE, b__law_take, fSeq, fAsg, fBin, fPeek, fC, R.bind, R.s, peekS, peekT, ofO, atI, ixN, sPut, sPutAt, frz, gAdd, gI0, fIfS, fTest, ofB, truD, fSet, fCB, fCons, fNil, g1, gInt, frzs, gMod, gI, fVar, hl, gFdiv, e1, fRet, finF, outs, takeR, takeX]
  | false =>
    have e2 : mulOk x 7919 = true := mulOk_of (b := 13) hx (by decide)
    have e3 : mulOk (n + 1) 104729 = true := mulOk_of (b := 17) hn (by decide)
    have e4 : powOk ((x * 7919 + (n + 1) * 104729 + 13).fmod 2147483647) 5 = true := by
      have := fmod_nonneg_lt (x := x * 7919 + (n + 1) * 104729 + 13) (l := 2147483647) (by decide)
      exact decide_eq_true ⟨by decide, by decide, by omega⟩
    have e5 : ∀ x, divOk x 17 = true := fun x => decide_eq_true ⟨by decide, by decide⟩
    simp [m__law_take, mirOf, startE, b__law_take, fSeq, fAsg, fBin, fPeek, fC, R.bind, R.s, peekS, peekT, ofO, atI, ixN, sPut, sPutAt, frz, gAdd, gI0, fIfS, fTest, ofB, truD, fSet, fCB, fCons, fNil, g1, gInt, frzs, gMod, gI, fVar, hl, gFdiv, e1, fRet, finF, outs, takeR, takeX, fNext, gMul, e2, e3, gPow, e4, e5]
/-- the script -/
abbrev scr (ns : List Int) : D := .lst (ns.map D.int)
def cellOf (ns : List Int) (k : Nat) : Int := ns.getD k 0
theorem cell_eq (ns : List Int) (k : Nat) : m__law_cell [.fz (scr ns), .fz (.int k)] = .ok (.fz (.int (cellOf ns k))) [] := by
  by_cases h : k < ns.length
  · have e : atI (ns.map D.int) (k : Int) = some (.int (cellOf ns k)) := by
      unfold atI ixN
      rw [if_pos (by omega), if_pos (by simpa using h)]
      show (ns.map D.int)[(k : Int).toNat]? = _
      rw [Int.toNat_natCast, List.getElem?_map, List.getElem?_eq_getElem h]
      unfold cellOf
      rw [List.getD_eq_getElem?_getD, List.getElem?_eq_getElem h]
      rfl
    simp [m__law_cell, mirOf, startE, b__law_cell, fSeq, fIfS, fTestB, fBin, fVar, fCB, fCons, fNil, g1, gLen, frzs, frz, gLt, gI0, R.bind, R.s, ofO, h, fRet, fPeek, peekS, peekT, gIx, scr, e, finF, outs]
  · have e : cellOf ns k = 0 := by
      unfold cellOf
      rw [List.getD_eq_getElem?_getD, List.getElem?_eq_none (by omega)]
      rfl
    simp [m__law_cell, mirOf, startE, b__law_cell, fSeq, fIfS, fTestB, fBin, fVar, fCB, fCons, fNil, g1, gLen, frzs, frz, gLt, gI0, R.bind, R.s, ofO, h, fRet, fNext, fC, scr, e, finF, outs]
/-- the script's numbers are at most so wide -/
def Wide (ns : List Int) : Prop := ∀ z ∈ ns, z.natAbs < 2 ^ 1048576
theorem cell_wide {ns : List Int} (h : Wide ns) (k : Nat) : (cellOf ns k).natAbs < 2 ^ 1048576 := by
  unfold cellOf
  rw [List.getD_eq_getElem?_getD]
  cases e : ns[k]? with
  | none =>
    show (0 : Int).natAbs < _
    exact Nat.pow_pos (by decide)
  | some z => exact h z (List.mem_of_getElem? e)
theorem cell_sz {ns : List Int} (h : Wide ns) (k : Nat) : sz (cellOf ns k) ≤ 1048576 := sz_le (cell_wide h k)
theorem wide_of {ns : List Int} (h : ∀ z ∈ ns, Builtin.Int.intBits z ≤ 1048576) : Wide ns := fun z hz => by
  have b := h z hz
  unfold Builtin.Int.intBits at b
  split at b
  · rename_i e
    have : z.natAbs = 0 := by simpa using e
    rw [this]
    exact Nat.pow_pos (by decide)
  · exact Nat.lt_of_lt_of_le Nat.lt_log2_self (Nat.pow_le_pow_right (by decide) b)
end DL

set_option maxHeartbeats 1000000
namespace DL
open PySem L2
def b_common_c0 : M Bool := fTestB (fBin gNe (fVar 3) (fC (.int 0)))
def b_common_w0 : MS := fPar 2 3 (fCons (fVar 3) (fCons (fBin gMod (fVar 2) (fVar 3)) (fNil)))
def b_common : MS := fSeq (fPar 2 3 (fCons (fCB (g1 gAbs) (fCons (fVar 0) (fNil))) (fCons (fCB (g1 gAbs) (fCons (fVar 1) (fNil))) (fNil)))) (fSeq (fWhile (fuelI 3) b_common_c0 b_common_w0) (fRet (fVar 2)))
def m_common : Mir := mirOf 4 [] b_common

def b_combination_e0 : M T := fBin gSub (fVar 5) (fBin gMul (fVar 4) (fVar 6))
def b_combination_c0 : M Bool := fTestB (fBin gNe (fPeek 3 (fC (.int 0))) (fC (.int 0)))
def b_combination_w0 : MS := fSeq (fSet 4 (fBin gFdiv (fPeek 2 (fC (.int 0))) (fPeek 3 (fC (.int 0))))) (fPar 2 3 (fCons (fVar 3) (fCons (fCB (g1 gTuple) (fCons (fLc (iArgs zipD (fCons (fVar 2) (fCons (fVar 3) (fNil)))) (sTup (sCons (sName 5) (sCons (sName 6) (sNil)))) fYes b_combination_e0 [5, 6]) (fNil))) (fNil))))
def b_combination_e1 : M T := fUn gNeg (fVar 5)
def b_combination : MS := fSeq (fSet 2 (fTup (fCons (fVar 0) (fCons (fC (.int 1)) (fCons (fC (.int 0)) (fNil)))))) (fSeq (fSet 3 (fTup (fCons (fVar 1) (fCons (fC (.int 0)) (fCons (fC (.int 1)) (fNil)))))) (fSeq (fWhile (fuelT 3) b_combination_c0 b_combination_w0) (fSeq (fIfS (fTestB (fBin gLt (fPeek 2 (fC (.int 0))) (fC (.int 0)))) (fSet 2 (fCB (g1 gTuple) (fCons (fLc (iSeq (fVar 2)) (sName 5) fYes b_combination_e1 [5]) (fNil)))) (fNext)) (fRet (fVar 2)))))
def m_combination : Mir := mirOf 7 [] b_combination

/-! ### loops, turn by turn -/
theorem loopW_go {c : M Bool} {b : MS} {n : Nat} {env e e' : Env} (h1 : c env = .ok true e) (h2 : b e = .nx e') : loopW c b (n + 1) env = loopW c b n e' := by
  simp only [loopW, h1, R.s, h2, if_true]
theorem loopF_go {set : T → Env → Option Env} {b : MS} {d : D} {ds : List D} {env e e' : Env} (h1 : set (.fz d) env = some e) (h2 : b e = .nx e') : loopF set b (d :: ds) env = loopF set b ds e' := by
  simp only [loopF, h1, h2]
theorem loopW_end {c : M Bool} {b : MS} {n : Nat} {env e : Env} (h1 : c env = .ok false e) : loopW c b (n + 1) env = .nx e := by
  simp [loopW, h1, R.s]
/-! ### common -/
theorem abs_if (a : Int) : (if a < 0 then -a else a) = (a.natAbs : Int) := by split <;> omega
theorem nat_fmod (x y : Nat) : (x : Int).fmod y = ((x % y : Nat) : Int) := by
  rw [Int.fmod_eq_emod_of_nonneg _ (by omega)]; rfl
theorem common_loop (A B : Option T) : ∀ (n x y : Nat), y < n → loopW b_common_c0 b_common_w0 n [A, B, some (.fz (.int x)), some (.fz (.int y))] =
    .nx [A, B, some (.fz (.int (Nat.gcd x y))), some (.fz (.int 0))]
  | 0, _, _, h => by omega
  | n + 1, x, y, h => by
    by_cases hy : y = 0
    · subst hy
      have := loopW_end (c := b_common_c0) (b := b_common_w0) (n := n) (env := [A, B, some (.fz (.int x)), some (.fz (.int 0))]) (e := [A, B, some (.fz (.int x)), some (.fz (.int 0))]) (by
        simp [b_common_c0, fTestB, fBin, fVar, fC, R.bind, R.s, frz, gNe, gEqS, eqS, ofO])
      simpa using this
    · have e : ((y : Int) = 0) = False := by simp; omega
      have ih := common_loop A B n y (x % y) (by have := Nat.mod_lt x (show 0 < y by omega); omega)
      have e2 : Nat.gcd y (x % y) = Nat.gcd x y := by rw [Nat.gcd_comm, ← Nat.gcd_rec, Nat.gcd_comm]
      rw [e2] at ih
      rw [← ih]
      refine loopW_go (e := [A, B, some (.fz (.int x)), some (.fz (.int y))]) ?_ ?_
      · simp [b_common_c0, fTestB, fBin, fVar, fC, R.bind, R.s, frz, gNe, gEqS, eqS, ofO, hy]
      · simp [b_common_w0, fPar, fCons, fNil, fBin, fVar, R.bind, R.s, frz, ofO, par2, gMod, gI, hy, nat_fmod]
theorem common_eq (a b : Int) : m_common [.fz (.int a), .fz (.int b)] = .ok (.fz (.int (Int.gcd a b))) [] := by
  have e := common_loop (some (.fz (.int a))) (some (.fz (.int b))) (b.natAbs + 1) a.natAbs b.natAbs (by omega)
  simp [m_common, mirOf, startE, b_common, fSeq, fPar, fCons, fNil, fCB, g1, gAbs, frzs, frz, R.bind, R.s, par2, fVar, ofO, abs_if, fWhile, fuelI, e, fRet, finF, outs, Int.gcd]
/-! ### combination -/
theorem comb_turn (A B Q : Option T) {r0 u0 v0 r1 u1 v1 : Int} (h0 : divOk r0 r1 = true) (h1 : mulOk (r0.fdiv r1) r1 = true) (h2 : mulOk (r0.fdiv r1) u1 = true) (h3 : mulOk (r0.fdiv r1) v1 = true) :
    b_combination_w0
      [A, B, some (.fz (.tup [.int r0, .int u0, .int v0])), some (.fz (.tup [.int r1, .int u1, .int v1])), Q, none, none] =
    .nx [A, B, some (.fz (.tup [.int r1, .int u1, .int v1])), some (.fz (.tup [.int (r0 - r0.fdiv r1 * r1), .int (u0 - r0.fdiv r1 * u1), .int (v0 - r0.fdiv r1 * v1)])), some (.fz (.int (r0.fdiv r1))), none, none] := by
  have z1 : (0 : Nat) < sizeLine := by decide
  have z2 : (1 : Nat) < sizeLine := by decide
  have z3 : (2 : Nat) < sizeLine := by decide
  simp [b_combination_w0, b_combination_e0, fSeq, fSet, fBin, gFdiv, fPeek, fC, R.bind, R.s, peekS, peekT, gIx, atI, ixN, frz, ofO, gI, h0, fPar, fCons, fNil, fVar, fCB, fLc, iArgs, zipD, frzs, ofL, pairD, wipeE, loopC, sTup, sCons, sName, sNil, fYes, gMul, h1, h2, h3, gSub, gI0, z1, z2, z3, g1, gTuple, par2]
/-- what the loop keeps: B bounds both numbers -/
structure CI (a b : Int) (B : Nat) (r0 u0 v0 r1 u1 v1 : Int) : Prop where
  e0 : r0 = u0 * a + v0 * b
  e1 : r1 = u1 * a + v1 * b
  g : Int.gcd r0 r1 = Int.gcd a b
  b0 : r0.natAbs ≤ B
  b1 : r1.natAbs ≤ B
  ph : (u0.natAbs + u1.natAbs ≤ 1 ∧ v0.natAbs + v1.natAbs ≤ 1) ∨
    (0 ≤ r0 * r1 ∧ r0 ≠ 0 ∧ (u0.natAbs + u1.natAbs) * (r0.natAbs * r1.natAbs) ≤ (B + 2) * (B * B) ∧ (v0.natAbs + v1.natAbs) * (r0.natAbs * r1.natAbs) ≤ (B + 2) * (B * B) ∧
      u0.natAbs + u1.natAbs ≤ (B + 1) * ((B + 2) * (B * B)) + (B + 2) ∧ v0.natAbs + v1.natAbs ≤ (B + 1) * ((B + 2) * (B * B)) + (B + 2))
theorem fmod_facts {x y : Int} (h : y ≠ 0) : x - x.fdiv y * y = x.fmod y ∧ (x.fmod y).natAbs < y.natAbs ∧ 0 ≤ y * x.fmod y := by
  have e : x - x.fdiv y * y = x.fmod y := by rw [Int.fmod_def, Int.mul_comm]
  refine ⟨e, ?_⟩
  by_cases hp : 0 < y
  · have := fmod_nonneg_lt (x := x) hp
    exact ⟨by omega, Int.mul_nonneg (by omega) this.1⟩
  · have hp : 0 < -y := by omega
    have := fmod_nonneg_lt (x := -x) hp
    rw [Int.neg_fmod_neg] at this
    refine ⟨by omega, ?_⟩
    have h2 := Int.mul_nonneg (show 0 ≤ -y by omega) this.1
    rw [Int.neg_mul_neg] at h2
    exact h2
/-- |q| |y| ≤ |x| + |y|; with like signs |q| |y| + |rest| = |x| -/
theorem fdiv_facts {x y : Int} (h : y ≠ 0) : (x.fdiv y).natAbs * y.natAbs ≤ x.natAbs + y.natAbs := by
  obtain ⟨e, l, _⟩ := fmod_facts (x := x) h
  rw [← Int.natAbs_mul]
  omega
theorem fdiv_like {x y : Int} (h : y ≠ 0) (hs : 0 ≤ x * y) : (x.fdiv y).natAbs * y.natAbs + (x.fmod y).natAbs = x.natAbs := by
  obtain ⟨e, l, s⟩ := fmod_facts (x := x) h
  rw [← Int.natAbs_mul]
  by_cases hp : 0 < y
  · have hx : 0 ≤ x := by
      by_cases hx : 0 ≤ x
      · exact hx
      · have := Int.mul_neg_of_neg_of_pos (show x < 0 by omega) hp
        omega
    have hq : 0 ≤ x.fdiv y := by rw [Int.fdiv_eq_ediv_of_nonneg x (by omega)]; exact Int.ediv_nonneg hx (by omega)
    have := Int.mul_nonneg hq (show 0 ≤ y by omega)
    have m := fmod_nonneg_lt (x := x) hp
    omega
  · have hp : 0 < -y := by omega
    have hx : x ≤ 0 := by
      by_cases hx : x ≤ 0
      · exact hx
      · have := Int.mul_neg_of_pos_of_neg (show 0 < x by omega) (show y < 0 by omega)
        omega
    have hq : 0 ≤ x.fdiv y := by
      rw [← Int.neg_fdiv_neg, Int.fdiv_eq_ediv_of_nonneg _ (by omega)]
      exact Int.ediv_nonneg (by omega) (by omega)
    have := Int.mul_nonneg hq (show 0 ≤ -y by omega)
    have m := fmod_nonneg_lt (x := -x) hp
    rw [Int.neg_fmod_neg] at m
    rw [Int.mul_neg] at this
    omega
/-- sums of coefficients grow by at most |q| + 1 -/
theorem coef_step (x0 x1 q : Int) : x1.natAbs + (x0 - q * x1).natAbs ≤ (q.natAbs + 1) * (x0.natAbs + x1.natAbs) := by
  have h : (x0 - q * x1).natAbs ≤ x0.natAbs + q.natAbs * x1.natAbs := by
    rw [← Int.natAbs_mul]; omega
  have e : (q.natAbs + 1) * (x0.natAbs + x1.natAbs) = q.natAbs * x0.natAbs + q.natAbs * x1.natAbs + (x0.natAbs + x1.natAbs) := by
    rw [Nat.add_mul, Nat.one_mul, Nat.mul_add]
  rw [e]
  omega
theorem phase_step {B R0 R1 R2 q S S' : Nat} (hS' : S' ≤ (q + 1) * S) (h : q * R1 + R2 = R0) (hlt : R2 < R1) (hb : R0 ≤ B) (h0 : 0 < R0) (k : S * (R0 * R1) ≤ (B + 2) * (B * B)) :
    S' * (R1 * R2) ≤ (B + 2) * (B * B) ∧ S' ≤ (B + 1) * ((B + 2) * (B * B)) + (B + 2) := by
  have h1 : (q + 1) * R2 ≤ R0 := by
    rw [Nat.add_mul, Nat.one_mul]
    have : q * R2 ≤ q * R1 := Nat.mul_le_mul_left q (Nat.le_of_lt hlt)
    omega
  have hq : q ≤ R0 := by
    have : q * 1 ≤ q * R1 := Nat.mul_le_mul_left q (by omega)
    omega
  have hS : S ≤ S * (R0 * R1) := Nat.le_mul_of_pos_right S (Nat.mul_pos h0 (by omega))
  constructor
  · calc S' * (R1 * R2) ≤ ((q + 1) * S) * (R1 * R2) := Nat.mul_le_mul_right _ hS'
      _ = (S * R1) * ((q + 1) * R2) := by
        simp only [Nat.mul_comm, Nat.mul_left_comm, Nat.mul_assoc]
      _ ≤ (S * R1) * R0 := Nat.mul_le_mul_left _ h1
      _ = S * (R0 * R1) := by simp only [Nat.mul_comm, Nat.mul_left_comm, Nat.mul_assoc]
      _ ≤ _ := k
  · have : (q + 1) * S ≤ (B + 1) * ((B + 2) * (B * B)) := Nat.mul_le_mul (by omega) (Nat.le_trans hS k)
    omega
theorem first_step {B R0 R1 R2 q S S' : Nat} (hS' : S' ≤ (q + 1) * S) (hS : S ≤ 1) (h : q * R1 ≤ R0 + R1) (h1 : 0 < R1) (hlt : R2 < R1) (hb : R0 ≤ B) (hb1 : R1 ≤ B) :
    S' * (R1 * R2) ≤ (B + 2) * (B * B) ∧ S' ≤ (B + 1) * ((B + 2) * (B * B)) + (B + 2) := by
  have hq : q ≤ R0 + 1 := by
    rcases Nat.lt_or_ge (R0 + 1) q with z | z
    · have : (R0 + 2) * R1 ≤ q * R1 := Nat.mul_le_mul_right R1 z
      have h3 : R0 * 1 ≤ R0 * R1 := Nat.mul_le_mul_left R0 h1
      rw [Nat.add_mul] at this
      omega
    · exact z
  have hs : S' ≤ B + 2 := by
    have : (q + 1) * S ≤ (q + 1) * 1 := Nat.mul_le_mul_left _ hS
    omega
  exact ⟨Nat.mul_le_mul hs (Nat.mul_le_mul hb1 (by omega)), by omega⟩
theorem CI.step {a b : Int} {B : Nat} {r0 u0 v0 r1 u1 v1 : Int} (h : CI a b B r0 u0 v0 r1 u1 v1) (n1 : r1 ≠ 0) :
    CI a b B r1 u1 v1 (r0 - r0.fdiv r1 * r1) (u0 - r0.fdiv r1 * u1) (v0 - r0.fdiv r1 * v1) := by
  obtain ⟨e, l, s⟩ := fmod_facts (x := r0) n1
  have e' : r0 - r0.fdiv r1 * r1 = (u0 - r0.fdiv r1 * u1) * a + (v0 - r0.fdiv r1 * v1) * b := by
    have h0 := h.e0
    have h1 := h.e1
    generalize r0.fdiv r1 = q at *
    rw [Int.sub_mul, Int.sub_mul, Int.mul_assoc, Int.mul_assoc]
    have : q * r1 = q * (u1 * a) + q * (v1 * b) := by rw [h1, Int.mul_add]
    omega
  have p1 : 0 < r1.natAbs := by omega
  refine ⟨h.e1, e', ?_, h.b1, by rw [e]; have := h.b1; omega, .inr ?_⟩
  · rw [Int.gcd_sub_mul_right_right, Int.gcd_comm]; exact h.g
  · rw [e]
    refine ⟨s, n1, ?_⟩
    rcases h.ph with ⟨s1, s2⟩ | ⟨sg, n0, k1, k2, _, _⟩
    · have f := fdiv_facts (x := r0) n1
      have a1 := first_step (coef_step u0 u1 (r0.fdiv r1)) s1 f p1 l h.b0 h.b1
      have a2 := first_step (coef_step v0 v1 (r0.fdiv r1)) s2 f p1 l h.b0 h.b1
      exact ⟨a1.1, a2.1, a1.2, a2.2⟩
    · have f := fdiv_like n1 sg
      have a1 := phase_step (coef_step u0 u1 (r0.fdiv r1)) f l h.b0 (by omega) k1
      have a2 := phase_step (coef_step v0 v1 (r0.fdiv r1)) f l h.b0 (by omega) k2
      exact ⟨a1.1, a2.1, a1.2, a2.2⟩
/-- the coefficients' bound -/
def cB (B : Nat) : Nat := (B + 1) * ((B + 2) * (B * B)) + (B + 2)
theorem CI.sum {a b : Int} {B : Nat} {r0 u0 v0 r1 u1 v1 : Int} (h : CI a b B r0 u0 v0 r1 u1 v1) : u0.natAbs + u1.natAbs ≤ cB B ∧ v0.natAbs + v1.natAbs ≤ cB B := by
  unfold cB
  rcases h.ph with ⟨s1, s2⟩ | ⟨_, _, _, _, k1, k2⟩
  · exact ⟨by omega, by omega⟩
  · exact ⟨k1, k2⟩
theorem pow_cB {n B : Nat} (h : B < 2 ^ n) (hn : 0 < n) : cB B < 2 ^ (4 * n + 4) := by
  have two : 2 ≤ 2 ^ n := by
    calc 2 = 2 ^ 1 := rfl
      _ ≤ 2 ^ n := Nat.pow_le_pow_right (by decide) hn
  unfold cB
  generalize hX : 2 ^ n = X at *
  have e : 2 ^ (4 * n + 4) = 16 * (X * (X * (X * X))) := by
    rw [← hX, Nat.pow_add, Nat.mul_comm, show 4 * n = n + (n + (n + n)) by omega, Nat.pow_add, Nat.pow_add, Nat.pow_add]
  rw [e]
  have a1 : B + 1 ≤ X := h
  have a2 : B + 2 ≤ 2 * X := by omega
  have a3 : B * B ≤ X * X := Nat.mul_le_mul (by omega) (by omega)
  have a4 : (B + 1) * ((B + 2) * (B * B)) ≤ X * (2 * X * (X * X)) := Nat.mul_le_mul a1 (Nat.mul_le_mul a2 a3)
  have e2 : X * (2 * X * (X * X)) = 2 * (X * (X * (X * X))) := by simp only [Nat.mul_comm, Nat.mul_left_comm, Nat.mul_assoc]
  have a5 : X ≤ X * (X * (X * X)) := Nat.le_mul_of_pos_right X (Nat.mul_pos (by omega) (Nat.mul_pos (by omega) (by omega)))
  omega
theorem comb_loop {a b : Int} {B n : Nat} (hB : B < 2 ^ n) (hn : 0 < n) (hn2 : n ≤ 8000) (A A' : Option T) : ∀ (k : Nat) (r0 u0 v0 r1 u1 v1 : Int) (Q : Option T), r1.natAbs < k → CI a b B r0 u0 v0 r1 u1 v1 →
    ∃ d u v u' v' Q', loopW b_combination_c0 b_combination_w0 k
      [A, A', some (.fz (.tup [.int r0, .int u0, .int v0])), some (.fz (.tup [.int r1, .int u1, .int v1])), Q, none, none] =
    .nx [A, A', some (.fz (.tup [.int d, .int u, .int v])), some (.fz (.tup [.int 0, .int u', .int v'])), Q', none, none] ∧ CI a b B d u v 0 u' v'
  | 0, _, _, _, _, _, _, _, h, _ => by omega
  | k + 1, r0, u0, v0, r1, u1, v1, Q, h, ci => by
    by_cases h1 : r1 = 0
    · subst h1
      refine ⟨r0, u0, v0, u1, v1, Q, ?_, ci⟩
      exact loopW_end (by simp [b_combination_c0, fTestB, fBin, fPeek, fC, R.bind, R.s, peekS, peekT, gIx, atI, ixN, frz, ofO, gNe, gEqS, eqS])
    · have ci2 := ci.step h1
      obtain ⟨e, l, _⟩ := fmod_facts (x := r0) h1
      have p1 : 0 < r1.natAbs := by omega
      have hq : (r0.fdiv r1).natAbs ≤ B + 1 := by
        have f := fdiv_facts (x := r0) h1
        have b0 := ci.b0
        rcases Nat.lt_or_ge (B + 1) (r0.fdiv r1).natAbs with z | z
        · have : (B + 2) * r1.natAbs ≤ (r0.fdiv r1).natAbs * r1.natAbs := Nat.mul_le_mul_right _ z
          have h3 : B * 1 ≤ B * r1.natAbs := Nat.mul_le_mul_left B p1
          rw [Nat.add_mul] at this
          omega
        · exact z
      have pw : 2 ^ n ≤ 2 ^ 8000 := Nat.pow_le_pow_right (by decide) hn2
      have pc := pow_cB hB hn
      have sq : sz (r0.fdiv r1) ≤ n + 1 := sz_le (by rw [Nat.pow_succ]; omega)
      have s1 : sz r1 ≤ n := sz_le (by have := ci.b1; omega)
      have su : sz u1 ≤ 4 * n + 4 := sz_le (by have := ci.sum.1; omega)
      have sv : sz v1 ≤ 4 * n + 4 := sz_le (by have := ci.sum.2; omega)
      have t := comb_turn A A' Q (u0 := u0) (v0 := v0) (r0 := r0) (r1 := r1) (u1 := u1) (v1 := v1) (decide_eq_true ⟨h1, by omega⟩) (mulOk_of sq s1 (by omega)) (mulOk_of sq su (by omega)) (mulOk_of sq sv (by omega))
      obtain ⟨d, u, v, u', v', Q', ih, ci3⟩ := comb_loop hB hn hn2 A A' k r1 u1 v1 _ _ _ (some (.fz (.int (r0.fdiv r1)))) (by rw [e]; omega) ci2
      refine ⟨d, u, v, u', v', Q', ?_, ci3⟩
      rw [← ih]
      exact loopW_go (by simp [b_combination_c0, fTestB, fBin, fPeek, fC, R.bind, R.s, peekS, peekT, gIx, atI, ixN, frz, ofO, gNe, gEqS, eqS, h1]) t
theorem comb_eq {a b : Int} {n : Nat} (ha : a.natAbs < 2 ^ n) (hb : b.natAbs < 2 ^ n) (hn : 0 < n) (hn2 : n ≤ 8000) : ∃ u v : Int, m_combination [.fz (.int a), .fz (.int b)] = .ok (.fz (.tup [.int (Int.gcd a b), .int u, .int v])) [] ∧
    u * a + v * b = (Int.gcd a b : Int) ∧ u.natAbs < 2 ^ (4 * n + 4) ∧ v.natAbs < 2 ^ (4 * n + 4) := by
  obtain ⟨d, u, v, u', v', Q', e, ci⟩ := comb_loop (a := a) (b := b) (B := max a.natAbs b.natAbs) (n := n) (by omega) hn hn2 (some (.fz (.int a))) (some (.fz (.int b))) (b.natAbs + 1) a 1 0 b 0 1 none (by omega)
    ⟨by omega, by omega, rfl, by omega, by omega, .inl ⟨by decide, by decide⟩⟩
  have pc := pow_cB (n := n) (B := max a.natAbs b.natAbs) (by omega) hn
  have hg : d.natAbs = Int.gcd a b := by have := ci.g; rw [Int.gcd_zero_right] at this; exact this
  have sm := ci.sum
  have z3 : (3 : Nat) ≤ sizeLine := by decide
  have z1 : (0 : Nat) < sizeLine := by decide
  have z2 : (1 : Nat) < sizeLine := by decide
  have z4 : (2 : Nat) < sizeLine := by decide
  by_cases hd : d < 0
  · refine ⟨-u, -v, ?_, ?_, by omega, by omega⟩
    · have ed : (Int.gcd a b : Int) = -d := by omega
      rw [ed]
      simp [m_combination, mirOf, startE, b_combination, fSeq, fSet, fTup, fCons, fNil, fVar, fC, R.bind, R.s, frz, frzs, z3, fWhile, fuelT, e, fIfS, fTestB, fBin, fPeek, peekS, peekT, gIx, atI, ixN, ofO, gLt, gI0, hd, fCB, g1, gTuple, fLc, iSeq, ofL, seqD, wipeE, loopC, sName, fYes, b_combination_e1, fUn, gNeg, z1, z2, z4, fRet, finF, outs]
    · have := ci.e0
      rw [Int.neg_mul, Int.neg_mul]
      omega
  · refine ⟨u, v, ?_, ?_, by omega, by omega⟩
    · have ed : (Int.gcd a b : Int) = d := by omega
      rw [ed]
      simp [m_combination, mirOf, startE, b_combination, fSeq, fSet, fTup, fCons, fNil, fVar, fC, R.bind, R.s, frz, frzs, z3, fWhile, fuelT, e, fIfS, fTestB, fBin, fPeek, peekS, peekT, gIx, atI, ixN, ofO, gLt, gI0, hd, fNext, fRet, finF, outs]
    · have := ci.e0
      omega
end DL

set_option maxHeartbeats 1000000
namespace DL
open PySem PySem.Spec PyProof.Rows L2
theorem rps_ints (Z : Wd) (F : Hp) : ∀ ns : List Int, Rps Z F (ns.map V.int) (ns.map D.int)
  | [] => trivial
  | _ :: ns => ⟨rfl, rps_ints Z F ns⟩
/-- the law's promise from its function -/
theorem law_sp {K : PySem.W.Frag} {C : Nat → Addr} {m : Mir} (h : ∀ ns : List Int, ns.length ≤ 63 → Wide ns → m [.fz (scr ns)] = .ok (.fz (.bl true)) []) (H : Hp) (a : Addr) (ns : List Int) (hl : ns.length ≤ 63) (hb : ∀ z ∈ ns, Builtin.Int.intBits z ≤ 1048576) (hS : SqL K H a (ns.map V.int)) :
    spOf ⟨K, C⟩ 1 [] m [.ref a] H (fun v _ => v = .bl true) fun _ _ _ => False := by
  refine ⟨[.fz (scr ns)], [], rfl, rfl, ⟨H, [], fun _ _ e => e, ⟨[], [], ⟨⟨a, _, rfl, hS, rps_ints _ _ ns⟩, rfl⟩, rfl, rfl⟩, List.nodup_nil, fun _ h => nomatch h⟩, ?_⟩
  rw [h ns hl (wide_of hb)]
  exact ⟨rfl, fun H' v r => r.fz⟩
theorem law_cx {P : Program} {w : World} {H : Hp} {s : Shared} {e : Value} {s' : Shared} (h : L2.CX P w [] H s (fun _ _ _ => False) e s') : False := by
  obtain ⟨_, _, _, _, _, _, _, _, _, _, _, _, z⟩ := h
  exact z.elim
/-- a def of the top by what the head finds -/
theorem at_mk {K : PySem.W.Frag} {h : Heap} {mg : Str → Option Value} (X : K.In h) (G : h.Ns mainGlobals mg) {x : Str} {st : Stmt} {ps : List Str} {f : Addr} {od an : Option Addr} {sl : Array (Option Value)} {oc kV dc pm cd ct : Value}
    (a : PySem.W.nsIn K mainGlobals x = some (some (.ref f))) (l : K.lookup f = some ⟨oc, od, .func (PySem.W.fnOf x x (defArgs st) (defBody st) (defScope st) .none kV dc pm an cd ct), sl⟩) (c : PySem.W.codeIn K cd x = true) (k : PySem.W.keepIn K (.ref f) = true)
    (hb : ∀ (kV doc pm : Value) (an : Option Addr) (cdv ct : Value) (us : List Value), us.length = ps.length → bindArgs (PySem.W.fnOf x x (defArgs st) (defBody st) (defScope st) .none kV doc pm an cdv ct) ⟨us, []⟩ = pure (ps.zip us)) : At K mg x st ps :=
  ⟨f, _, PySem.W.mg_of X G a, fun_mk l c k, (fun_mk (st := st) l c k).binds hb⟩
/-- the law's own def, for the end -/
theorem fn_mk' {P : Program} {w : World} {K : PySem.W.Frag} {mg : Str → Option Value} {base : Heap} {C : Nat → Addr} {x : Str} {st : Stmt} {N ps : List Str} {k : Nat} {io : List Nat} {fb : MS} {f : Addr} {fd : FuncData} (F : Fun K x x st f fd) (S : FnScope N ps (defScope st)) (hio : io.Nodup) (hib : ∀ j ∈ io, j < ps.length)
    (hbody : ∀ (f : Addr) (cdv : Value) (A : Around) (outer : List PySem.Env) (s : Shared) (H : Hp) (E : XK) (s0 : L2.St) (W : WX), Room k (A.deeper (envOfC x (defScope st) s.heap.objs.size f cdv)) →
      DSs (cxOf (L2.CX P w) P w K mg base N x (defScope st) f cdv A outer s H E) ⟨⟨K, C⟩, io, s0, N.length⟩ W (defBody st) fb) : FnOk P w K mg base (L2.CX P w) (k + 1) f fd ps (spOf ⟨K, C⟩ ps.length io (mirOf N.length io fb)) := by
  refine fn_d F S hio hib fun X G W hX hz hi hn => ?_
  obtain ⟨cdv, A, outer, s, H, E, rfl, hr⟩ := hX
  obtain ⟨Z, io', s0, n⟩ := G
  cases hz
  cases hi
  cases hn
  exact hbody f cdv A outer s H E s0 W hr
end DL

set_option maxHeartbeats 4000000
namespace K11
open PySem PySem.Spec PyProof.Rows L2 DL
def topS (i : Nat) : Stmt := PySem.Challenge.pw_everyfield_k11_common_divisors.main.body.getD i (.Pass ⟨0, 0, 0, 0⟩)
section
variable {P : Program} {w : World} {K : PySem.W.Frag} {mg : Str → Option Value} {base : Heap} {C : Nat → Addr}
abbrev s_common : Stmt := topS 1
theorem sc_common : FnScope ["a", "b", "first", "second"] ["a", "b"] (defScope s_common) := ⟨rfl, rfl, rfl, by decide +kernel, rfl, by decide +kernel, by decide +kernel⟩
theorem d_common (A : At K mg "common" s_common ["a", "b"]) (h_abs : mg "abs" = none) : Df P w K mg base C "common" 1 ["a", "b"] [] m_common :=
  Df.mk' (k := 0) A sc_common (by decide) (by decide) fun f cdv A outer s H E s0 W hr => dss_cons (dpar 2 3 (da_cons (c_abs h_abs (da_cons (dv 0) (da_nil))) (da_cons (c_abs h_abs (da_cons (dv 1) (da_nil))) (da_nil)))) (dss_cons (ds_while (fuelI 3) (dt_cmp od_ne (dv 3) (de_int)) (dss_one (dpar 2 3 (da_cons (dv 3) (da_cons (de_op od_mod (dv 2) (dv 3)) (da_nil)))))) (dss_one (ds_ret (dv 2))))

abbrev s_combination : Stmt := topS 2
theorem sc_combination : FnScope ["a", "b", "first", "second", "quotient", "i", "j"] ["a", "b"] (defScope s_combination) := ⟨rfl, rfl, rfl, by decide +kernel, rfl, by decide +kernel, by decide +kernel⟩
theorem d_combination (A : At K mg "combination" s_combination ["a", "b"]) (h_tuple : mg "tuple" = none) (h_zip : mg "zip" = none) : Df P w K mg base C "combination" 1 ["a", "b"] [] m_combination :=
  Df.mk' (k := 0) A sc_combination (by decide) (by decide) fun f cdv A outer s H E s0 W hr => dss_cons (dset 2 (de_tup (da_cons (dv 0) (da_cons (de_int) (da_cons (de_int) (da_nil)))))) (dss_cons (dset 3 (de_tup (da_cons (dv 1) (da_cons (de_int) (da_cons (de_int) (da_nil)))))) (dss_cons (ds_while (fuelT 3) (dt_cmp od_ne (dpeek 3 (de_int)) (de_int)) (dss_cons (dset 4 (de_op od_fdiv (dpeek 2 (de_int)) (dpeek 3 (de_int)))) (dss_one (dpar 2 3 (da_cons (dv 3) (da_cons (c_tuple h_tuple (da_cons (dlc [("i", 5), ("j", 6)] (di_zip (by rfl) h_zip (da_cons (dv 2) (da_cons (dv 3) (da_nil)))) (by kernel_rfl) (fun _ _ _ _ _ => dg_tup (dgs_cons (dname 5) (dgs_cons (dname 6) (dgs_nil))) (hl := (sCons_len (sCons_len (fun _ _ _ h => sNil_len h))))) (fun _ _ _ _ _ => dts_nil) (fun _ _ _ _ _ => de_op od_sub (dv 5) (de_op od_mul (dv 4) (dv 6)))) (da_nil))) (da_nil))))))) (dss_cons (ds_if (dt_cmp od_lt (dpeek 2 (de_int)) (de_int)) (dss_one (dset 2 (c_tuple h_tuple (da_cons (dlc [("i", 5)] (di_seq (dv 2)) (by kernel_rfl) (fun _ _ _ _ _ => dname 5) (fun _ _ _ _ _ => dts_nil) (fun _ _ _ _ _ => de_un ud_neg (dv 5))) (da_nil))))) (dss_nil)) (dss_one (ds_ret (dv 2))))))

abbrev s__law_pool : Stmt := topS 4
theorem sc__law_pool : FnScope ["_law_cell_here"] ["_law_cell_here"] (defScope s__law_pool) := ⟨rfl, rfl, rfl, by decide +kernel, rfl, by decide +kernel, by decide +kernel⟩
theorem d__law_pool (A : At K mg "_law_pool" s__law_pool ["_law_cell_here"]) : Df P w K mg base C "_law_pool" 1 ["_law_cell_here"] [] m__law_pool :=
  Df.mk' (k := 0) A sc__law_pool (by decide) (by decide) fun f cdv A outer s H E s0 W hr => dss_one (ds_ret (de_lst (da_cons (dv 0) (da_cons (de_int) (da_cons (de_cmp od_ge (dv 0) (de_op od_pow (de_int) (de_int))) (da_nil))))))

abbrev s__law_take : Stmt := topS 5
theorem sc__law_take : FnScope ["_law_pool_here", "_law_limit", "_law_drawn", "_law_mixed"] ["_law_pool_here", "_law_limit"] (defScope s__law_take) := ⟨rfl, rfl, rfl, by decide +kernel, rfl, by decide +kernel, by decide +kernel⟩
theorem d__law_take (A : At K mg "_law_take" s__law_take ["_law_pool_here", "_law_limit"]) (h_int : mg "int" = none) : Df P w K mg base C "_law_take" 1 ["_law_pool_here", "_law_limit"] [0] m__law_take :=
  Df.mk' (k := 0) A sc__law_take (by decide) (by decide) fun f cdv A outer s H E s0 W hr => dss_cons (ds_asg (de_op od_add (dpeek 0 (de_int)) (de_int)) (dput 0 (de_int))) (dss_cons (ds_if (dt_val (dpeek 0 (de_int))) (dss_cons (dset 2 (de_op od_mod (c_int h_int (da_cons (dpeek 0 (de_int)) (da_nil))) (dv 1))) (dss_cons (ds_asg (de_op od_fdiv (c_int h_int (da_cons (dpeek 0 (de_int)) (da_nil))) (dv 1)) (dput 0 (de_int))) (dss_one (ds_ret (dv 2))))) (dss_nil)) (dss_cons (dset 3 (de_op od_mod (c_int h_int (da_cons (de_op od_add (de_op od_add (de_op od_mul (dpeek 0 (de_int)) (de_int)) (de_op od_mul (dpeek 0 (de_int)) (de_int))) (de_int)) (da_nil))) (de_int))) (dss_one (ds_ret (de_op od_mod (de_op od_fdiv (c_int h_int (da_cons (de_op od_mod (de_op od_pow (dv 3) (de_int)) (de_int)) (da_nil))) (de_int)) (dv 1))))))

abbrev s__law_cell : Stmt := topS 6
theorem sc__law_cell : FnScope ["_law_script", "_law_k"] ["_law_script", "_law_k"] (defScope s__law_cell) := ⟨rfl, rfl, rfl, by decide +kernel, rfl, by decide +kernel, by decide +kernel⟩
theorem d__law_cell (A : At K mg "_law_cell" s__law_cell ["_law_script", "_law_k"]) (h_len : mg "len" = none) : Df P w K mg base C "_law_cell" 1 ["_law_script", "_law_k"] [] m__law_cell :=
  Df.mk' (k := 0) A sc__law_cell (by decide) (by decide) fun f cdv A outer s H E s0 W hr => dss_cons (ds_if (dt_cmp od_lt (dv 1) (c_len h_len (da_cons (dv 0) (da_nil)))) (dss_one (ds_ret (dpeek 0 (dv 1)))) (dss_nil)) (dss_one (ds_ret (de_int)))

abbrev s__law_number : Stmt := topS 7
theorem sc__law_number : FnScope ["_law_script", "_law_k", "_law_pool_here", "_law_which"] ["_law_script", "_law_k"] (defScope s__law_number) := ⟨rfl, rfl, rfl, by decide +kernel, rfl, by decide +kernel, by decide +kernel⟩
def b__law_number : MS := fSeq (fSet 2 (fCall m__law_pool [] [none] (fCons (fCall m__law_cell [] [none, none] (fCons (fVar 0) (fCons (fVar 1) (fNil)))) (fNil)))) (fSeq (fSet 3 (fCall m__law_take [2] [some 2, none] (fMove 2 (fCons (fC (.int 6)) (fNil))))) (fSeq (fIfS (fTestB (fBin gEq (fVar 3) (fC (.int 0)))) (fRet (fC (.int 0))) (fNext)) (fSeq (fIfS (fTestB (fBin gEq (fVar 3) (fC (.int 1)))) (fRet (fBin gMod (fCB (g1 gInt) (fCons (fCall m__law_cell [] [none, none] (fCons (fVar 0) (fCons (fVar 1) (fNil)))) (fNil))) (fBin gPow (fC (.int 10)) (fC (.int 60))))) (fNext)) (fSeq (fIfS (fTestB (fBin gEq (fVar 3) (fC (.int 2)))) (fRet (fUn gNeg (fBin gMod (fCB (g1 gInt) (fCons (fCall m__law_cell [] [none, none] (fCons (fVar 0) (fCons (fVar 1) (fNil)))) (fNil))) (fBin gPow (fC (.int 10)) (fC (.int 60)))))) (fNext)) (fRet (fBin gSub (fCall m__law_take [2] [some 2, none] (fMove 2 (fCons (fC (.int 601)) (fNil)))) (fC (.int 300))))))))
def m__law_number : Mir := mirOf 4 [] b__law_number
theorem d__law_number (A : At K mg "_law_number" s__law_number ["_law_script", "_law_k"]) (h_int : mg "int" = none) (D__law_pool : Df P w K mg base C "_law_pool" 1 ["_law_cell_here"] [] m__law_pool) (D__law_cell : Df P w K mg base C "_law_cell" 1 ["_law_script", "_law_k"] [] m__law_cell) (D__law_take : Df P w K mg base C "_law_take" 1 ["_law_pool_here", "_law_limit"] [0] m__law_take) : Df P w K mg base C "_law_number" 2 ["_law_script", "_law_k"] [] m__law_number :=
  Df.mk' (k := 1) A sc__law_number (by decide) (by decide) fun f cdv A outer s H E s0 W hr => dss_cons (dset 2 (dcall D__law_pool [] (hr.mono (by decide)) (da_cons (dcall D__law_cell [] (hr.mono (by decide)) (da_cons (dv 0) (da_cons (dv 1) (da_nil)))) (da_nil)))) (dss_cons (dset 3 (dcall D__law_take [2] (hr.mono (by decide)) (dmove 2 (da_cons (de_int) (da_nil))))) (dss_cons (ds_if (dt_cmp od_eq (dv 3) (de_int)) (dss_one (ds_ret (de_int))) (dss_nil)) (dss_cons (ds_if (dt_cmp od_eq (dv 3) (de_int)) (dss_one (ds_ret (de_op od_mod (c_int h_int (da_cons (dcall D__law_cell [] (hr.mono (by decide)) (da_cons (dv 0) (da_cons (dv 1) (da_nil)))) (da_nil))) (de_op od_pow (de_int) (de_int))))) (dss_nil)) (dss_cons (ds_if (dt_cmp od_eq (dv 3) (de_int)) (dss_one (ds_ret (de_un ud_neg (de_op od_mod (c_int h_int (da_cons (dcall D__law_cell [] (hr.mono (by decide)) (da_cons (dv 0) (da_cons (dv 1) (da_nil)))) (da_nil))) (de_op od_pow (de_int) (de_int)))))) (dss_nil)) (dss_one (ds_ret (de_op od_sub (dcall D__law_take [2] (hr.mono (by decide)) (dmove 2 (da_cons (de_int) (da_nil)))) (de_int))))))))

abbrev s_law : Stmt := topS 8
theorem sc_law : FnScope ["_law_script", "_law_factor", "_law_pool_here", "_law_a", "_law_b", "_law_first", "_law_second", "_law_told", "_law_row", "_law_d", "_law_u", "_law_v"] ["_law_script"] (defScope s_law) := ⟨rfl, rfl, rfl, by decide +kernel, rfl, by decide +kernel, by decide +kernel⟩
def b_law_f0 : MS := fSeq (fSet 7 (fCall m_common [] [none, none] (fCons (fVar 5) (fCons (fVar 6) (fNil))))) (fSeq (fSet 8 (fCall m_combination [] [none, none] (fCons (fVar 5) (fCons (fVar 6) (fNil))))) (fSeq (fIfS (fOr (fTest (fCB (g2 gIsi) (fCons (fVar 7) (fCons (fC (.ty "bool")) (fNil))))) (fOr (fNot (fTest (fCB (g2 gIsi) (fCons (fVar 7) (fCons (fC (.ty "int")) (fNil)))))) (fTestB (fBin gLt (fVar 7) (fC (.int 0)))))) (fRet (fC (.bl false))) (fNext)) (fSeq (fIfS (fNot (fTest (fCB (g2 gIsi) (fCons (fVar 8) (fCons (fC (.ty "tuple")) (fNil)))))) (fRet (fC (.bl false))) (fNext)) (fSeq (fAsg (fVar 8) (sTup (sCons (sName 9) (sCons (sName 10) (sCons (sName 11) (sNil)))))) (fSeq (fIfS (fOr (fTestB (fBin gNe (fVar 9) (fVar 7))) (fTestB (fBin gNe (fBin gAdd (fBin gMul (fVar 10) (fVar 5)) (fBin gMul (fVar 11) (fVar 6))) (fVar 7)))) (fRet (fC (.bl false))) (fNext)) (fSeq (fIfS (fAnd (fTestB (fBin gEq (fVar 7) (fC (.int 0)))) (fOr (fTestB (fBin gNe (fVar 5) (fC (.int 0)))) (fTestB (fBin gNe (fVar 6) (fC (.int 0)))))) (fRet (fC (.bl false))) (fNext)) (fIfS (fAnd (fTestB (fBin gGt (fVar 7) (fC (.int 0)))) (fOr (fTestB (fBin gNe (fBin gMod (fCB (g1 gInt) (fCons (fVar 5) (fNil))) (fVar 7)) (fC (.int 0)))) (fTestB (fBin gNe (fBin gMod (fCB (g1 gInt) (fCons (fVar 6) (fNil))) (fVar 7)) (fC (.int 0)))))) (fRet (fC (.bl false))) (fNext))))))))
def b_law : MS := fSeq (fSet 1 (fC (.int 1))) (fSeq (fSet 2 (fCall m__law_pool [] [none] (fCons (fCall m__law_cell [] [none, none] (fCons (fVar 0) (fCons (fC (.int 2)) (fNil)))) (fNil)))) (fSeq (fIfS (fTestB (fBin gEq (fCall m__law_take [2] [some 2, none] (fMove 2 (fCons (fC (.int 2)) (fNil)))) (fC (.int 1)))) (fSet 1 (fBin gAdd (fC (.int 1)) (fCall m__law_take [2] [some 2, none] (fMove 2 (fCons (fBin gPow (fC (.int 10)) (fC (.int 20))) (fNil)))))) (fNext)) (fSeq (fSet 3 (fBin gMul (fVar 1) (fCall m__law_number [] [none, none] (fCons (fVar 0) (fCons (fC (.int 0)) (fNil)))))) (fSeq (fSet 4 (fBin gMul (fVar 1) (fCall m__law_number [] [none, none] (fCons (fVar 0) (fCons (fC (.int 1)) (fNil)))))) (fSeq (fFor (iSeq (fLst (fCons (fTup (fCons (fVar 3) (fCons (fVar 4) (fNil)))) (fCons (fTup (fCons (fVar 4) (fCons (fVar 3) (fNil)))) (fCons (fTup (fCons (fVar 3) (fCons (fVar 3) (fNil)))) (fCons (fTup (fCons (fVar 3) (fCons (fC (.int 0)) (fNil)))) (fCons (fTup (fCons (fC (.int 0)) (fCons (fVar 4) (fNil)))) (fCons (fTup (fCons (fUn gNeg (fVar 3)) (fCons (fVar 4) (fNil)))) (fCons (fTup (fCons (fBin gAdd (fVar 3) (fC (.int 1))) (fCons (fVar 4) (fNil)))) (fNil)))))))))) (sTup (sCons (sName 5) (sCons (sName 6) (sNil)))) b_law_f0) (fSeq (fIfS (fTestB (fBin gNe (fCall m_common [] [none, none] (fCons (fVar 3) (fCons (fVar 4) (fNil)))) (fCall m_common [] [none, none] (fCons (fVar 4) (fCons (fVar 3) (fNil)))))) (fRet (fC (.bl false))) (fNext)) (fSeq (fIfS (fTestB (fBin gNe (fCall m_common [] [none, none] (fCons (fVar 3) (fCons (fC (.int 0)) (fNil)))) (fCB (g1 gAbs) (fCons (fVar 3) (fNil))))) (fRet (fC (.bl false))) (fNext)) (fRet (fBin gEq (fBin gMod (fCB (g1 gInt) (fCons (fCall m_common [] [none, none] (fCons (fVar 3) (fCons (fVar 4) (fNil)))) (fNil))) (fVar 1)) (fC (.int 0)))))))))))
def m_law : Mir := mirOf 12 [] b_law
theorem d_law {fL : Addr} {fdL : FuncData} (A : Fun K "law" "law" s_law fL fdL) (h_isinstance : mg "isinstance" = none) (h_bool : mg "bool" = none) (h_int : mg "int" = none) (h_tuple : mg "tuple" = none) (h_abs : mg "abs" = none) (D__law_pool : Df P w K mg base C "_law_pool" 1 ["_law_cell_here"] [] m__law_pool) (D__law_cell : Df P w K mg base C "_law_cell" 1 ["_law_script", "_law_k"] [] m__law_cell) (D__law_take : Df P w K mg base C "_law_take" 1 ["_law_pool_here", "_law_limit"] [0] m__law_take) (D__law_number : Df P w K mg base C "_law_number" 2 ["_law_script", "_law_k"] [] m__law_number) (D_common : Df P w K mg base C "common" 1 ["a", "b"] [] m_common) (D_combination : Df P w K mg base C "combination" 1 ["a", "b"] [] m_combination) : FnOk P w K mg base (L2.CX P w) 3 fL fdL ["_law_script"] (spOf ⟨K, C⟩ 1 [] m_law) :=
  fn_mk' (k := 2) A sc_law (by decide) (by decide) fun f cdv A outer s H E s0 W hr => dss_cons (dset 1 (de_int)) (dss_cons (dset 2 (dcall D__law_pool [] (hr.mono (by decide)) (da_cons (dcall D__law_cell [] (hr.mono (by decide)) (da_cons (dv 0) (da_cons (de_int) (da_nil)))) (da_nil)))) (dss_cons (ds_if (dt_cmp od_eq (dcall D__law_take [2] (hr.mono (by decide)) (dmove 2 (da_cons (de_int) (da_nil)))) (de_int)) (dss_one (dset 1 (de_op od_add (de_int) (dcall D__law_take [2] (hr.mono (by decide)) (dmove 2 (da_cons (de_op od_pow (de_int) (de_int)) (da_nil))))))) (dss_nil)) (dss_cons (dset 3 (de_op od_mul (dv 1) (dcall D__law_number [] (hr.mono (by decide)) (da_cons (dv 0) (da_cons (de_int) (da_nil)))))) (dss_cons (dset 4 (de_op od_mul (dv 1) (dcall D__law_number [] (hr.mono (by decide)) (da_cons (dv 0) (da_cons (de_int) (da_nil)))))) (dss_cons (ds_for (di_seq (de_lst (da_cons (de_tup (da_cons (dv 3) (da_cons (dv 4) (da_nil)))) (da_cons (de_tup (da_cons (dv 4) (da_cons (dv 3) (da_nil)))) (da_cons (de_tup (da_cons (dv 3) (da_cons (dv 3) (da_nil)))) (da_cons (de_tup (da_cons (dv 3) (da_cons (de_int) (da_nil)))) (da_cons (de_tup (da_cons (de_int) (da_cons (dv 4) (da_nil)))) (da_cons (de_tup (da_cons (de_un ud_neg (dv 3)) (da_cons (dv 4) (da_nil)))) (da_cons (de_tup (da_cons (de_op od_add (dv 3) (de_int)) (da_cons (dv 4) (da_nil)))) (da_nil)))))))))) (dg_tup (dgs_cons (dname 5) (dgs_cons (dname 6) (dgs_nil))) (hl := (sCons_len (sCons_len (fun _ _ _ h => sNil_len h))))) (dss_cons (dset 7 (dcall D_common [] (hr.mono (by decide)) (da_cons (dv 5) (da_cons (dv 6) (da_nil))))) (dss_cons (dset 8 (dcall D_combination [] (hr.mono (by decide)) (da_cons (dv 5) (da_cons (dv 6) (da_nil))))) (dss_cons (ds_if (DW.dt (dw_or (dt_val (c_isinstance h_isinstance (da_cons (dv 7) (da_cons (ty_bool h_bool) (da_nil))))) (dw_or (dt_not (dt_val (c_isinstance h_isinstance (da_cons (dv 7) (da_cons (ty_int h_int) (da_nil)))))) (dw_or1 (dt_cmp od_lt (dv 7) (de_int)))))) (dss_one (ds_ret (de_bl))) (dss_nil)) (dss_cons (ds_if (dt_not (dt_val (c_isinstance h_isinstance (da_cons (dv 8) (da_cons (ty_tuple h_tuple) (da_nil)))))) (dss_one (ds_ret (de_bl))) (dss_nil)) (dss_cons (ds_asg (dv 8) (dg_tup (dgs_cons (dname 9) (dgs_cons (dname 10) (dgs_cons (dname 11) (dgs_nil)))) (hl := (sCons_len (sCons_len (sCons_len (fun _ _ _ h => sNil_len h))))))) (dss_cons (ds_if (DW.dt (dw_or (dt_cmp od_ne (dv 9) (dv 7)) (dw_or1 (dt_cmp od_ne (de_op od_add (de_op od_mul (dv 10) (dv 5)) (de_op od_mul (dv 11) (dv 6))) (dv 7))))) (dss_one (ds_ret (de_bl))) (dss_nil)) (dss_cons (ds_if (DW.dt (dw_and (dt_cmp od_eq (dv 7) (de_int)) (dw_and1 (DW.dt (dw_or (dt_cmp od_ne (dv 5) (de_int)) (dw_or1 (dt_cmp od_ne (dv 6) (de_int)))))))) (dss_one (ds_ret (de_bl))) (dss_nil)) (dss_one (ds_if (DW.dt (dw_and (dt_cmp od_gt (dv 7) (de_int)) (dw_and1 (DW.dt (dw_or (dt_cmp od_ne (de_op od_mod (c_int h_int (da_cons (dv 5) (da_nil))) (dv 7)) (de_int)) (dw_or1 (dt_cmp od_ne (de_op od_mod (c_int h_int (da_cons (dv 6) (da_nil))) (dv 7)) (de_int)))))))) (dss_one (ds_ret (de_bl))) (dss_nil))))))))))) (dss_cons (ds_if (dt_cmp od_ne (dcall D_common [] (hr.mono (by decide)) (da_cons (dv 3) (da_cons (dv 4) (da_nil)))) (dcall D_common [] (hr.mono (by decide)) (da_cons (dv 4) (da_cons (dv 3) (da_nil))))) (dss_one (ds_ret (de_bl))) (dss_nil)) (dss_cons (ds_if (dt_cmp od_ne (dcall D_common [] (hr.mono (by decide)) (da_cons (dv 3) (da_cons (de_int) (da_nil)))) (c_abs h_abs (da_cons (dv 3) (da_nil)))) (dss_one (ds_ret (de_bl))) (dss_nil)) (dss_one (ds_ret (de_cmp od_eq (de_op od_mod (c_int h_int (da_cons (dcall D_common [] (hr.mono (by decide)) (da_cons (dv 3) (da_cons (dv 4) (da_nil)))) (da_nil))) (dv 1)) (de_int)))))))))))

end
end K11

set_option maxHeartbeats 2000000
namespace K11
open PySem L2 DL
theorem isi1 : isiB "int" "bool" = some false := by decide
theorem isi2 : isiB "int" "int" = some true := by decide
theorem isi3 : isiB "tuple" "tuple" = some true := by decide
/-- a drawn number -/
theorem number_eq {ns : List Int} (hw : Wide ns) (k : Nat) : ∃ r : Int, m__law_number [.fz (scr ns), .fz (.int k)] = .ok (.fz (.int r)) [] ∧ r.natAbs < 2 ^ 200 := by
  have hc := cell_eq ns k
  have hs := cell_sz hw k
  generalize cellOf ns k = c at *
  have hp := pool_eq c
  have ht := take_eq (x := c) (n := 0) (fl := decide (10 ^ 18 ≤ c)) (l := 6) (by decide) (by decide) (by omega) (by decide)
  generalize decide (10 ^ 18 ≤ c) = fl at *
  have e60 : powOk 10 60 = true := by decide
  have ht' : m__law_take [poolT c 0 fl, .fz (.int 6)] = .ok (.fz (.int (takeR c (0 + 1) fl 6))) [poolT (takeX c fl 6) 1 fl] := ht
  generalize takeR c (0 + 1) fl 6 = w at *
  have fm := fmod_nonneg_lt (x := c) (l := 10 ^ 60) (by decide)
  by_cases h0 : w = 0
  · exact ⟨0, by simp [m__law_number, b__law_number, hc, hp, ht', h0], by decide⟩
  by_cases h1 : w = 1
  · exact ⟨c.fmod (10 ^ 60), by simp [m__law_number, b__law_number, hc, hp, ht', h1, e60], by omega⟩
  by_cases h2 : w = 2
  · exact ⟨-(c.fmod (10 ^ 60)), by simp [m__law_number, b__law_number, hc, hp, ht', h2, e60], by omega⟩
  · have hx : sz (takeX c fl 6) ≤ 2000000 := by
      unfold takeX
      split
      · exact sz_mono (sz_fdiv hs (by decide)) (by decide)
      · omega
    have ht2 := take_eq (x := takeX c fl 6) (n := 0 + 1) (fl := fl) (l := 601) (by decide) (by decide) hx (by decide)
    have b := takeR_bd (x := takeX c fl 6) (n := 0 + 1 + 1) (fl := fl) (l := 601) (by decide)
    have e : m__law_take [poolT (takeX c fl 6) 1 fl, .fz (.int 601)] = .ok (.fz (.int (takeR (takeX c fl 6) (0 + 1 + 1) fl 601))) [poolT (takeX (takeX c fl 6) fl 601) (0 + 1 + 1) fl] := ht2
    refine ⟨takeR (takeX c fl 6) (0 + 1 + 1) fl 601 - 300, ?_, by omega⟩
    generalize takeR (takeX c fl 6) (0 + 1 + 1) fl 601 = v at *
    simp [m__law_number, b__law_number, hc, hp, ht', h0, h1, h2, e]
/-- one turn of the law's loop -/
theorem turn_eq {x y : Int} (hx : x.natAbs < 2 ^ 300) (hy : y.natAbs < 2 ^ 300) (S F P A B O7 O8 O9 O10 O11 : Option T) : ∃ O7' O8' O9' O10' O11', b_law_f0 [S, F, P, A, B, some (.fz (.int x)), some (.fz (.int y)), O7, O8, O9, O10, O11] =
    .nx [S, F, P, A, B, some (.fz (.int x)), some (.fz (.int y)), O7', O8', O9', O10', O11'] := by
  obtain ⟨u, v, hc, he, hu, hv⟩ := comb_eq (a := x) (b := y) (n := 300) hx hy (by decide) (by decide)
  have hg := common_eq x y
  have m1 : mulOk u x = true := mulOk_of (sz_le hu) (sz_le hx)
  have m2 : mulOk v y = true := mulOk_of (sz_le hv) (sz_le hy)
  have d1 : (Int.gcd x y : Int) ≠ 0 → x.fmod (Int.gcd x y) = 0 := fun _ => Int.fmod_eq_zero_of_dvd (Int.gcd_dvd_left ..)
  have d2 : (Int.gcd x y : Int) ≠ 0 → y.fmod (Int.gcd x y) = 0 := fun _ => Int.fmod_eq_zero_of_dvd (Int.gcd_dvd_right ..)
  have z0 : (Int.gcd x y : Int) = 0 → x = 0 ∧ y = 0 := fun h => by
    have : Int.gcd x y = 0 := by omega
    exact Int.gcd_eq_zero_iff.mp this
  have nn : ¬ ((Int.gcd x y : Int) < 0) := by omega
  generalize hG : (Int.gcd x y : Int) = g at *
  by_cases h : g = 0
  · obtain ⟨rfl, rfl⟩ := z0 h
    subst h
    exact ⟨_, _, _, _, _, by simp [b_law_f0, hg, hc, isi1, isi2, isi3, m1, m2]; exact ⟨rfl, rfl, rfl, rfl, rfl⟩⟩
  · have hp : 0 < g := by omega
    exact ⟨_, _, _, _, _, by simp [b_law_f0, hg, hc, isi1, isi2, isi3, m1, m2, he, nn, h, d1 h, d2 h, hp]; exact ⟨rfl, rfl, rfl, rfl, rfl⟩⟩
theorem loop_eq (S F P A B : Option T) : ∀ (ps : List (Int × Int)), (∀ p ∈ ps, p.1.natAbs < 2 ^ 300 ∧ p.2.natAbs < 2 ^ 300) → ∀ (O5 O6 O7 O8 O9 O10 O11 : Option T), ∃ O5' O6' O7' O8' O9' O10' O11',
    loopF (sTup (sCons (sName 5) (sCons (sName 6) (sNil)))) b_law_f0 (ps.map fun p => D.tup [.int p.1, .int p.2]) [S, F, P, A, B, O5, O6, O7, O8, O9, O10, O11] = .nx [S, F, P, A, B, O5', O6', O7', O8', O9', O10', O11']
  | [], _, O5, O6, O7, O8, O9, O10, O11 => ⟨O5, O6, O7, O8, O9, O10, O11, rfl⟩
  | p :: ps, h, O5, O6, O7, O8, O9, O10, O11 => by
    obtain ⟨hx, hy⟩ := h p (List.mem_cons_self ..)
    obtain ⟨o7, o8, o9, o10, o11, e⟩ := turn_eq hx hy S F P A B O7 O8 O9 O10 O11
    obtain ⟨q5, q6, q7, q8, q9, q10, q11, ih⟩ := loop_eq S F P A B ps (fun q hq => h q (List.mem_cons_of_mem _ hq)) (some (.fz (.int p.1))) (some (.fz (.int p.2))) o7 o8 o9 o10 o11
    exact ⟨q5, q6, q7, q8, q9, q10, q11, (loopF_go (e := [S, F, P, A, B, some (.fz (.int p.1)), some (.fz (.int p.2)), O7, O8, O9, O10, O11]) (by simp) e).trans ih⟩
theorem mem7 {P : Int × Int → Prop} {a b c d e f g : Int × Int} (h1 : P a) (h2 : P b) (h3 : P c) (h4 : P d) (h5 : P e) (h6 : P f) (h7 : P g) : ∀ p ∈ [a, b, c, d, e, f, g], P p := by
  intro p hp
  simp at hp
  rcases hp with rfl | rfl | rfl | rfl | rfl | rfl | rfl <;> assumption
theorem law_eq {ns : List Int} (hw : Wide ns) : m_law [.fz (scr ns)] = .ok (.fz (.bl true)) [] := by
  obtain ⟨r0, h0, b0⟩ := number_eq hw 0
  obtain ⟨r1, h1, b1⟩ := number_eq hw 1
  have h0 : m__law_number [.fz (scr ns), .fz (.int 0)] = .ok (.fz (.int r0)) [] := h0
  have h1 : m__law_number [.fz (scr ns), .fz (.int 1)] = .ok (.fz (.int r1)) [] := h1
  have hc : m__law_cell [.fz (scr ns), .fz (.int 2)] = .ok (.fz (.int (cellOf ns 2))) [] := cell_eq ns 2
  have hs := cell_sz hw 2
  generalize cellOf ns 2 = c at *
  have hp := pool_eq c
  have ht := take_eq (x := c) (n := 0) (fl := decide (10 ^ 18 ≤ c)) (l := 2) (by decide) (by decide) (by omega) (by decide)
  generalize decide (10 ^ 18 ≤ c) = fl at *
  have ht' : m__law_take [poolT c 0 fl, .fz (.int 2)] = .ok (.fz (.int (takeR c (0 + 1) fl 2))) [poolT (takeX c fl 2) 1 fl] := ht
  have hx : sz (takeX c fl 2) ≤ 2000000 := by
    unfold takeX
    split
    · exact sz_mono (sz_fdiv hs (by decide)) (by decide)
    · omega
  have ht2 : m__law_take [poolT (takeX c fl 2) 1 fl, .fz (.int (100000000000000000000))] = .ok (.fz (.int (takeR (takeX c fl 2) (1 + 1) fl (100000000000000000000)))) [poolT (takeX (takeX c fl 2) fl (100000000000000000000)) (1 + 1) fl] :=
    take_eq (x := takeX c fl 2) (n := 1) (fl := fl) (l := 100000000000000000000) (by decide) (by decide) hx (by decide)
  have bd := takeR_bd (x := takeX c fl 2) (n := 1 + 1) (fl := fl) (l := 100000000000000000000) (by decide)
  have e20 : powOk 10 20 = true := by decide
  generalize takeR (takeX c fl 2) (1 + 1) fl (100000000000000000000) = w2 at *
  generalize takeX (takeX c fl 2) fl (100000000000000000000) = x2 at *
  generalize takeR c (0 + 1) fl 2 = w at *
  generalize takeX c fl 2 = x1 at *
  -- the rest for any factor
  have rest : ∀ (f : Int) (P : T), 1 ≤ f → f ≤ 100000000000000000000 → mulOk f r0 = true ∧ mulOk f r1 = true ∧ ∃ O5 O6 O7 O8 O9 O10 O11, loopF (sTup (sCons (sName 5) (sCons (sName 6) (sNil)))) b_law_f0
      [.tup [.int (f * r0), .int (f * r1)], .tup [.int (f * r1), .int (f * r0)], .tup [.int (f * r0), .int (f * r0)], .tup [.int (f * r0), .int 0], .tup [.int 0, .int (f * r1)], .tup [.int (-(f * r0)), .int (f * r1)], .tup [.int (f * r0 + 1), .int (f * r1)]]
      [some (.fz (scr ns)), some (.fz (.int f)), some P, some (.fz (.int (f * r0))), some (.fz (.int (f * r1))), none, none, none, none, none, none, none] =
      .nx [some (.fz (scr ns)), some (.fz (.int f)), some P, some (.fz (.int (f * r0))), some (.fz (.int (f * r1))), O5, O6, O7, O8, O9, O10, O11] := by
    intro f P f1 f2
    have fn : f.natAbs < 2 ^ 70 := by omega
    have m0 : (f * r0).natAbs < 2 ^ 270 := by
      rw [Int.natAbs_mul, show (2 : Nat) ^ 270 = 2 ^ 70 * 2 ^ 200 by rw [← Nat.pow_add]]
      exact Nat.mul_lt_mul'' fn b0
    have m1 : (f * r1).natAbs < 2 ^ 270 := by
      rw [Int.natAbs_mul, show (2 : Nat) ^ 270 = 2 ^ 70 * 2 ^ 200 by rw [← Nat.pow_add]]
      exact Nat.mul_lt_mul'' fn b1
    refine ⟨mulOk_of (sz_le fn) (sz_le b0), mulOk_of (sz_le fn) (sz_le b1), ?_⟩
    generalize f * r0 = a at *
    generalize f * r1 = b at *
    exact loop_eq _ _ _ _ _ [(a, b), (b, a), (a, a), (a, 0), (0, b), (-a, b), (a + 1, b)] (mem7 ⟨by omega, by omega⟩ ⟨by omega, by omega⟩ ⟨by omega, by omega⟩ ⟨by omega, by show (0 : Int).natAbs < _; decide⟩ ⟨by show (0 : Int).natAbs < _; decide, by omega⟩ ⟨by simp; omega, by omega⟩ ⟨by simp; omega, by omega⟩) none none none none none none none
  have fin : ∀ f : Int, 1 ≤ f → ((Int.gcd (f * r0) (f * r1) : Int)).fmod f = 0 := fun f hf => Int.fmod_eq_zero_of_dvd (Int.dvd_coe_gcd ⟨r0, rfl⟩ ⟨r1, rfl⟩)
  have ab : ∀ a : Int, (Int.gcd a 0 : Int) = if a < 0 then -a else a := fun a => by rw [Int.gcd_zero_right]; split <;> omega
  have z7 : (7 : Nat) ≤ sizeLine := by decide
  have z2 : (2 : Nat) ≤ sizeLine := by decide
  have key : ∀ (f : Int) (P : T), 1 ≤ f → f ≤ 100000000000000000000 → ∃ a b, f * r0 = a ∧ f * r1 = b ∧ mulOk f r0 = true ∧ mulOk f r1 = true ∧ ((Int.gcd a b : Int)).fmod f = 0 ∧ ∃ O5 O6 O7 O8 O9 O10 O11, loopF (sTup (sCons (sName 5) (sCons (sName 6) (sNil)))) b_law_f0
      [.tup [.int a, .int b], .tup [.int b, .int a], .tup [.int a, .int a], .tup [.int a, .int 0], .tup [.int 0, .int b], .tup [.int (-a), .int b], .tup [.int (a + 1), .int b]]
      [some (.fz (scr ns)), some (.fz (.int f)), some P, some (.fz (.int a)), some (.fz (.int b)), none, none, none, none, none, none, none] =
      .nx [some (.fz (scr ns)), some (.fz (.int f)), some P, some (.fz (.int a)), some (.fz (.int b)), O5, O6, O7, O8, O9, O10, O11] := by
    intro f P f1 f2
    obtain ⟨m0, m1, e⟩ := rest f P f1 f2
    exact ⟨_, _, rfl, rfl, m0, m1, fin f f1, e⟩
  by_cases hw1 : w = 1
  · obtain ⟨f, hfe⟩ : ∃ f, 1 + w2 = f := ⟨_, rfl⟩
    obtain ⟨a, b, ha, hb, m0, m1, ff, O5, O6, O7, O8, O9, O10, O11, hl⟩ := key f (poolT x2 2 fl) (by omega) (by omega)
    have nf : ¬ (f = 0) := by omega
    have gc : Int.gcd b a = Int.gcd a b := Int.gcd_comm ..
    have ab' := ab a
    clear rest fin key ab
    simp [m_law, b_law, hc, hp, ht', hw1, e20, ht2, h0, h1, hfe, ha, hb, m0, m1, z7, z2, hl, common_eq, gc, ff, nf, abs_if]
  · obtain ⟨a, b, ha, hb, m0, m1, ff, O5, O6, O7, O8, O9, O10, O11, hl⟩ := key 1 (poolT x1 1 fl) (by omega) (by omega)
    rw [Int.one_mul] at ha hb
    subst ha hb
    have gc : Int.gcd r1 r0 = Int.gcd r0 r1 := Int.gcd_comm ..
    have ab' := ab r0
    clear rest fin key ab
    simp [m_law, b_law, hc, hp, ht', hw1, h0, h1, m0, m1, z7, z2, hl, common_eq, gc, ff, abs_if]
theorem law_holds (ns : List Int) (_ : ns.length ≤ 63) (hw : Wide ns) : m_law [.fz (scr ns)] = .ok (.fz (.bl true)) [] := law_eq hw
end K11

set_option maxHeartbeats 4000000
namespace K11
open PySem PySem.Spec PyProof.Rows L2 DL
section
variable {P : Program} {w : World} {K : PySem.W.Frag} {h : Heap} {mg : Str → Option Value} {C : Nat → Addr}
theorem all_mk (X : K.In h) (G : h.Ns mainGlobals mg) {fa : Addr} (hfa : mg "law" = some (.ref fa))
    {fa0 : Addr} {od0 an0 : Option Addr} {sl0 : Array (Option Value)} {oc0 kV0 dc0 pm0 cd0 ct0 : Value}
    (a0 : PySem.W.nsIn K mainGlobals "common" = some (some (.ref fa0))) (l0 : K.lookup fa0 = some ⟨oc0, od0, .func (PySem.W.fnOf "common" "common" (defArgs s_common) (defBody s_common) (defScope s_common) .none kV0 dc0 pm0 an0 cd0 ct0), sl0⟩) (c0 : PySem.W.codeIn K cd0 "common" = true) (k0 : PySem.W.keepIn K (.ref fa0) = true)
    {fa1 : Addr} {od1 an1 : Option Addr} {sl1 : Array (Option Value)} {oc1 kV1 dc1 pm1 cd1 ct1 : Value}
    (a1 : PySem.W.nsIn K mainGlobals "combination" = some (some (.ref fa1))) (l1 : K.lookup fa1 = some ⟨oc1, od1, .func (PySem.W.fnOf "combination" "combination" (defArgs s_combination) (defBody s_combination) (defScope s_combination) .none kV1 dc1 pm1 an1 cd1 ct1), sl1⟩) (c1 : PySem.W.codeIn K cd1 "combination" = true) (k1 : PySem.W.keepIn K (.ref fa1) = true)
    {fa2 : Addr} {od2 an2 : Option Addr} {sl2 : Array (Option Value)} {oc2 kV2 dc2 pm2 cd2 ct2 : Value}
    (a2 : PySem.W.nsIn K mainGlobals "_law_pool" = some (some (.ref fa2))) (l2 : K.lookup fa2 = some ⟨oc2, od2, .func (PySem.W.fnOf "_law_pool" "_law_pool" (defArgs s__law_pool) (defBody s__law_pool) (defScope s__law_pool) .none kV2 dc2 pm2 an2 cd2 ct2), sl2⟩) (c2 : PySem.W.codeIn K cd2 "_law_pool" = true) (k2 : PySem.W.keepIn K (.ref fa2) = true)
    {fa3 : Addr} {od3 an3 : Option Addr} {sl3 : Array (Option Value)} {oc3 kV3 dc3 pm3 cd3 ct3 : Value}
    (a3 : PySem.W.nsIn K mainGlobals "_law_take" = some (some (.ref fa3))) (l3 : K.lookup fa3 = some ⟨oc3, od3, .func (PySem.W.fnOf "_law_take" "_law_take" (defArgs s__law_take) (defBody s__law_take) (defScope s__law_take) .none kV3 dc3 pm3 an3 cd3 ct3), sl3⟩) (c3 : PySem.W.codeIn K cd3 "_law_take" = true) (k3 : PySem.W.keepIn K (.ref fa3) = true)
    {fa4 : Addr} {od4 an4 : Option Addr} {sl4 : Array (Option Value)} {oc4 kV4 dc4 pm4 cd4 ct4 : Value}
    (a4 : PySem.W.nsIn K mainGlobals "_law_cell" = some (some (.ref fa4))) (l4 : K.lookup fa4 = some ⟨oc4, od4, .func (PySem.W.fnOf "_law_cell" "_law_cell" (defArgs s__law_cell) (defBody s__law_cell) (defScope s__law_cell) .none kV4 dc4 pm4 an4 cd4 ct4), sl4⟩) (c4 : PySem.W.codeIn K cd4 "_law_cell" = true) (k4 : PySem.W.keepIn K (.ref fa4) = true)
    {fa5 : Addr} {od5 an5 : Option Addr} {sl5 : Array (Option Value)} {oc5 kV5 dc5 pm5 cd5 ct5 : Value}
    (a5 : PySem.W.nsIn K mainGlobals "_law_number" = some (some (.ref fa5))) (l5 : K.lookup fa5 = some ⟨oc5, od5, .func (PySem.W.fnOf "_law_number" "_law_number" (defArgs s__law_number) (defBody s__law_number) (defScope s__law_number) .none kV5 dc5 pm5 an5 cd5 ct5), sl5⟩) (c5 : PySem.W.codeIn K cd5 "_law_number" = true) (k5 : PySem.W.keepIn K (.ref fa5) = true)
    {fa6 : Addr} {od6 an6 : Option Addr} {sl6 : Array (Option Value)} {oc6 kV6 dc6 pm6 cd6 ct6 : Value}
    (a6 : PySem.W.nsIn K mainGlobals "law" = some (some (.ref fa6))) (l6 : K.lookup fa6 = some ⟨oc6, od6, .func (PySem.W.fnOf "law" "law" (defArgs s_law) (defBody s_law) (defScope s_law) .none kV6 dc6 pm6 an6 cd6 ct6), sl6⟩) (c6 : PySem.W.codeIn K cd6 "law" = true) (k6 : PySem.W.keepIn K (.ref fa6) = true)
    (z0 : PySem.W.nsIn K mainGlobals "abs" = some none)
    (z1 : PySem.W.nsIn K mainGlobals "tuple" = some none)
    (z2 : PySem.W.nsIn K mainGlobals "zip" = some none)
    (z3 : PySem.W.nsIn K mainGlobals "int" = some none)
    (z4 : PySem.W.nsIn K mainGlobals "len" = some none)
    (z5 : PySem.W.nsIn K mainGlobals "isinstance" = some none)
    (z6 : PySem.W.nsIn K mainGlobals "bool" = some none) :
    ∃ fd : FuncData, (∀ (s : Shared) (v : Value), BindsTo s fd ⟨[v], []⟩ [("_law_script", v)]) ∧ ∀ base : Heap, K.In base → base.Ns mainGlobals mg → FnOk P w K mg base (L2.CX P w) 3 fa fd ["_law_script"] (spOf ⟨K, C⟩ 1 [] m_law) := by
  have e := hfa.symm.trans (PySem.W.mg_of X G a6)
  cases e
  have A0 : At K mg "common" s_common ["a", "b"] := at_mk X G a0 l0 c0 k0 fun _ _ _ _ _ _ us hl => match us, hl with | [_, _], _ => rfl
  have A1 : At K mg "combination" s_combination ["a", "b"] := at_mk X G a1 l1 c1 k1 fun _ _ _ _ _ _ us hl => match us, hl with | [_, _], _ => rfl
  have A2 : At K mg "_law_pool" s__law_pool ["_law_cell_here"] := at_mk X G a2 l2 c2 k2 fun _ _ _ _ _ _ us hl => match us, hl with | [_], _ => rfl
  have A3 : At K mg "_law_take" s__law_take ["_law_pool_here", "_law_limit"] := at_mk X G a3 l3 c3 k3 fun _ _ _ _ _ _ us hl => match us, hl with | [_, _], _ => rfl
  have A4 : At K mg "_law_cell" s__law_cell ["_law_script", "_law_k"] := at_mk X G a4 l4 c4 k4 fun _ _ _ _ _ _ us hl => match us, hl with | [_, _], _ => rfl
  have A5 : At K mg "_law_number" s__law_number ["_law_script", "_law_k"] := at_mk X G a5 l5 c5 k5 fun _ _ _ _ _ _ us hl => match us, hl with | [_, _], _ => rfl
  have h_abs : mg "abs" = none := PySem.W.mg_none_of X G z0
  have h_tuple : mg "tuple" = none := PySem.W.mg_none_of X G z1
  have h_zip : mg "zip" = none := PySem.W.mg_none_of X G z2
  have h_int : mg "int" = none := PySem.W.mg_none_of X G z3
  have h_len : mg "len" = none := PySem.W.mg_none_of X G z4
  have h_isinstance : mg "isinstance" = none := PySem.W.mg_none_of X G z5
  have h_bool : mg "bool" = none := PySem.W.mg_none_of X G z6
  refine ⟨PySem.W.fnOf "law" "law" (defArgs s_law) (defBody s_law) (defScope s_law) .none kV6 dc6 pm6 an6 cd6 ct6, fun s v => .of_eq rfl, fun base _ _ => ?_⟩
  have D_common : Df P w K mg base C "common" 1 ["a", "b"] [] m_common := d_common A0 h_abs
  have D_combination : Df P w K mg base C "combination" 1 ["a", "b"] [] m_combination := d_combination A1 h_tuple h_zip
  have D__law_pool : Df P w K mg base C "_law_pool" 1 ["_law_cell_here"] [] m__law_pool := d__law_pool A2
  have D__law_take : Df P w K mg base C "_law_take" 1 ["_law_pool_here", "_law_limit"] [0] m__law_take := d__law_take A3 h_int
  have D__law_cell : Df P w K mg base C "_law_cell" 1 ["_law_script", "_law_k"] [] m__law_cell := d__law_cell A4 h_len
  have D__law_number : Df P w K mg base C "_law_number" 2 ["_law_script", "_law_k"] [] m__law_number := d__law_number A5 h_int D__law_pool D__law_cell D__law_take
  exact d_law (fun_mk (st := s_law) l6 c6 k6) h_isinstance h_bool h_int h_tuple h_abs D__law_pool D__law_cell D__law_take D__law_number D_common D_combination
end
end K11
open PySem PySem.W PyProof.Rows
set_option maxHeartbeats 0 in
theorem PySem.Challenge.cw_everyfield_k11_common_divisors_holds : PySem.Challenge.rw_everyfield_k11_common_divisors.Holds := by
  w_on; o_law; k_head; (case hw => w_witness2)
  k_fill
  refine L2.walk_ofB (l := PySem.Challenge.rw_everyfield_k11_common_divisors) (n := 63) (k := 3) (x := "_law_script") (CX := fun w => L2.CX (PySem.Challenge.rw_everyfield_k11_common_divisors).prog w) (sp := fun w => DL.spOf ⟨_, fun _ => 0⟩ 1 [] K11.m_law) rfl (by decide) rfl ⟨rfl, by decide, by decide⟩ (fun w h Y => PySem.W.kIn_of Y) ?F (fun _ H a ns hl hb _ hS => DL.law_sp K11.law_holds H a ns hl hb hS) (fun _ _ _ _ _ h => DL.law_cx h)
  case F =>
    intro w mg fa h KX G hmg
    refine' K11.all_mk KX G hmg ?a0 ?l0 ?c0 ?k0 ?a1 ?l1 ?c1 ?k1 ?a2 ?l2 ?c2 ?k2 ?a3 ?l3 ?c3 ?k3 ?a4 ?l4 ?c4 ?k4 ?a5 ?l5 ?c5 ?k5 ?a6 ?l6 ?c6 ?k6 ?z0 ?z1 ?z2 ?z3 ?z4 ?z5 ?z6
    (case a0 => k_is); (case l0 => k_is); (case c0 => k_is); (case k0 => k_is); (case a1 => k_is); (case l1 => k_is); (case c1 => k_is); (case k1 => k_is); (case a2 => k_is); (case l2 => k_is); (case c2 => k_is); (case k2 => k_is); (case a3 => k_is); (case l3 => k_is); (case c3 => k_is); (case k3 => k_is); (case a4 => k_is); (case l4 => k_is); (case c4 => k_is); (case k4 => k_is); (case a5 => k_is); (case l5 => k_is); (case c5 => k_is); (case k5 => k_is); (case a6 => k_is); (case l6 => k_is); (case c6 => k_is); (case k6 => k_is); (case z0 => k_is); (case z1 => k_is); (case z2 => k_is); (case z3 => k_is); (case z4 => k_is); (case z5 => k_is); (case z6 => k_is)

